import PyProof.Rows.All
import Wide.All
import OpenK.AllK
import Wide.FinOn
import HandS.ForMost
import HandS.ForExc
import HandS.Defaults
import HandS.Lambda
import HandS.EndTab
import HandS.Walk
import HandS.More
import HandS.Conv
import HandS.TupAny
import HandS.Style
import HandS.NoneIn
import HandS.IsInst
import HandS.ListItems
import HandS.Small
import HandS.Nested
import HandS.HeadWalk
import HandS.AnyAll
import HandS.Deep
import HandS.Flow
import HandS.StrMore
import HandS.Iter
import HandS.DictComp
import HandS.HeadHook4
import KE.KStateDown
import HandS.Head0
import HandS.Head1
import HandS.Head2
import HandS.HeadEnd
import HandS.HeadHook1
import HandS.HeadHook2
import HandS.HeadHook3
import PySem.Challenge.RW_pagestack_k17_shelves_that_change_whole
set_option Elab.async false
set_option linter.all false
set_option maxRecDepth 100000
set_option maxHeartbeats 0
namespace Pr
open PySem PySem.Spec PyProof.Rows L2
/-! ## 1. readings, one step each -/
section
variable {K : PySem.W.Frag} {σ : L2.St} {H : Hp} {Q : VK} {v x y : V} {ta tb tc te : TE} {r r' : R2} {i : Nat} {D : Ends} {QB : Bool → Hp → Prop} {QA : List V → Hp → Prop}
theorem g_var (h : σ[i]? = some (some v)) (q : Q v H) : tVar i σ H Q := ⟨v, h, q⟩
theorem g_c (q : Q v H) : tC v σ H Q := q
theorem g_op (q : ta σ H fun x H1 => tb σ H1 fun y H2 => r x y H2 Q) : tOp r ta tb σ H Q := q
theorem g_un {r : V → Hp → VK → Prop} (q : ta σ H fun x H1 => r x H1 Q) : tUn r ta σ H Q := q
theorem g_I0 {g : Int → Int → V} {a b : Int} (q : Q (g a b) H) : rI0 g (.int a) (.int b) H Q := ⟨a, b, rfl, rfl, q⟩
theorem g_I {C : Int → Int → Prop} {g : Int → Int → V} {a b : Int} (c : C a b) (q : Q (g a b) H) : rI C g (.int a) (.int b) H Q := ⟨a, b, rfl, rfl, c, q⟩
theorem g_U {g : Int → V} {a : Int} (q : Q (g a) H) : rU g (.int a) H Q := ⟨a, rfl, q⟩
/-- == of scalars -/
theorem g_eqI {a b : Int} (q : Q (.bl (decide (a = b))) H) : rEq (.int a) (.int b) H Q := ⟨rfl, by rw [dec_int]; rw [Bool.beq_eq_decide_eq]; exact q⟩
theorem g_neI {a b : Int} (q : Q (.bl (!decide (a = b))) H) : rNe (.int a) (.int b) H Q := ⟨rfl, by rw [dec_int]; rw [Bool.beq_eq_decide_eq]; exact q⟩
theorem g_eqS {a b : Str} (q : Q (.bl (decide (a = b))) H) : rEq (.str a) (.str b) H Q := ⟨rfl, by rw [dec_str]; rw [Bool.beq_eq_decide_eq]; exact q⟩
theorem g_neS {a b : Str} (q : Q (.bl (!decide (a = b))) H) : rNe (.str a) (.str b) H Q := ⟨rfl, by rw [dec_str]; rw [Bool.beq_eq_decide_eq]; exact q⟩
theorem g_eqB {a b : Bool} (q : Q (.bl (decide (a = b))) H) : rEq (.bl a) (.bl b) H Q := ⟨rfl, by rw [dec_bl]; rw [Bool.beq_eq_decide_eq]; exact q⟩
theorem g_neB {a b : Bool} (q : Q (.bl (!decide (a = b))) H) : rNe (.bl a) (.bl b) H Q := ⟨rfl, by rw [dec_bl]; rw [Bool.beq_eq_decide_eq]; exact q⟩
/-- fields -/
def rFld (K : PySem.W.Frag) (f : Str) (x : V) (H1 : Hp) (Q : VK) : Prop := ∃ a C dx fs v, x = .ref a ∧ H1 a = some (.ins C dx fs) ∧ Cls K C ∧ NoAttr K C f ∧ fs.lookup f = some v ∧ Q v H1
theorem g_fld {f : Str} (q : ta σ H fun x H1 => rFld K f x H1 Q) : tFld K ta f σ H Q := q
theorem g_fld1 {f : Str} {a C dx : Addr} {fs : List (Str × V)} (h : H a = some (.ins C dx fs)) (c : Cls K C) (n : NoAttr K C f) (l : fs.lookup f = some v) (q : Q v H) : rFld K f (.ref a) H Q := ⟨a, C, dx, fs, v, rfl, h, c, n, l, q⟩
def rSFld (K : PySem.W.Frag) (f : Str) (x y : V) (H2 : Hp) (N : Hp → Prop) : Prop := ∃ a C dx fs, x = .ref a ∧ H2 a = some (.ins C dx fs) ∧ Cls K C ∧ NoAttr K C f ∧ fs.length < 1000 ∧ N (upd H2 a (.ins C dx (putF f y fs)))
theorem g_sfld {f : Str} {tv : TE} (q : tv σ H fun y H1 => ta σ H1 fun x H2 => rSFld K f x y H2 (D.nx σ)) : sFld K ta tv f D σ H := q
theorem g_sfld1 {f : Str} {a C dx : Addr} {fs fs' : List (Str × V)} {N : Hp → Prop} (h : H a = some (.ins C dx fs)) (c : Cls K C) (n : NoAttr K C f) (l : fs.length < 1000) (e : putF f y fs = fs') (q : N (upd H a (.ins C dx fs'))) : rSFld K f (.ref a) y H N := by
  subst e
  exact ⟨a, C, dx, fs, rfl, h, c, n, l, q⟩
/-- o.f += e, ints -/
theorem g_sfaug {f : Str} {tv : TE} {rd : V → V → Hp → VK → Prop} (q : ta σ H fun x H1 => ∃ a C dx fs v, x = .ref a ∧ H1 a = some (.ins C dx fs) ∧ Cls K C ∧ NoAttr K C f ∧ fs.lookup f = some v ∧
    tv σ H1 fun y H2 => rd v y H2 fun z H3 => ∃ dx' fs', H3 a = some (.ins C dx' fs') ∧ fs'.length < 1000 ∧ D.nx σ (upd H3 a (.ins C dx' (putF f z fs')))) : sFldAug K ta tv rd f D σ H := q
/-- tests -/
theorem g_test (q : te σ H fun x H' => ∃ k, x = .bl k ∧ QB k H') : tTest te σ H QB := q
theorem g_tb (q : te σ H fun x H' => ∃ k, x = .bl k ∧ QB k H') : tB te σ H QB := q
theorem g_bl {b : Bool} (q : QB b H) : ∃ k, V.bl b = .bl k ∧ QB k H := ⟨b, rfl, q⟩
theorem g_and {t u : TT} (q : t σ H fun c H1 => if c = true then u σ H1 QB else QB false H1) : tAnd t u σ H QB := q
theorem g_or {t u : TT} (q : t σ H fun c H1 => if c = true then QB true H1 else u σ H1 QB) : tOr t u σ H QB := q
theorem g_not {t : TT} (q : t σ H fun c H1 => QB (!c) H1) : tNot t σ H QB := q
theorem g_tif {t : TT} (q : t σ H fun c H1 => if c = true then ta σ H1 Q else tb σ H1 Q) : tIf t ta tb σ H Q := q
theorem g_andV (q : ta σ H fun x H1 => ∃ c, x = .bl c ∧ if c = true then tb σ H1 Q else Q (.bl false) H1) : tAndV ta tb σ H Q := q
theorem g_orV (q : ta σ H fun x H1 => ∃ c, x = .bl c ∧ if c = true then Q (.bl true) H1 else tb σ H1 Q) : tOrV ta tb σ H Q := q
theorem g_notV (q : ta σ H fun x H1 => ∃ c, x = .bl c ∧ Q (.bl (!c)) H1) : tNotV ta σ H Q := q
theorem g_blx {b : Bool} {P : Bool → Prop} (q : P b) : ∃ k, V.bl b = .bl k ∧ P k := ⟨b, rfl, q⟩
theorem g_chain (q : ta σ H fun x H1 => tb σ H1 fun y H2 => r x y H2 fun z H3 => ∃ k, z = .bl k ∧ (if k = true then tc σ H3 fun w' H4 => r' y w' H4 Q else Q (.bl false) H3)) : tChain r r' ta tb tc σ H Q := q
/-- arguments, displays -/
theorem g_nil (q : QA [] H) : tNil σ H QA := q
theorem g_cons {t : TA} (q : ta σ H fun x H1 => t σ H1 fun xs H2 => QA (x :: xs) H2) : tCons ta t σ H QA := q
theorem g_tup {t : TA} (q : t σ H fun xs H1 => xs.length ≤ sizeLine ∧ ∀ p, H1 p = none → Q (.ref p) (upd H1 p (.tup xs))) : tTup t σ H Q := q
theorem g_lst {t : TA} (q : t σ H fun xs H1 => xs.length ≤ sizeLine ∧ ∀ p, H1 p = none → Q (.ref p) (upd H1 p (.lst xs))) : tLst t σ H Q := q
theorem g_cb {r : List V → Hp → VK → Prop} {t : TA} (q : t σ H fun vs H1 => r vs H1 Q) : tCB r t σ H Q := q
theorem g_call {sp : Sp} {dvs : List V} {E : XK} {t : TA} (q : t σ H fun vs H1 => sp (vs ++ dvs) H1 Q E) : tCall sp dvs E t σ H Q := q
def rMeth (C : Addr) (m : Str) (x : V) (H1 : Hp) (k : V → Prop) : Prop := ∃ a dx fs, x = .ref a ∧ H1 a = some (.ins C dx fs) ∧ fs.lookup m = none ∧ k x
theorem g_meth {C : Addr} {m : Str} {sp : Sp} {dvs : List V} {E : XK} {t : TA} (q : ta σ H fun x H1 => rMeth C m x H1 fun x => t σ H1 fun vs H2 => sp (x :: (vs ++ dvs)) H2 Q E) : tMeth C m sp dvs E ta t σ H Q := by
  unfold tMeth
  have e : (fun x H1 => ∃ a dx fs, x = V.ref a ∧ H1 a = some (.ins C dx fs) ∧ fs.lookup m = none ∧ t σ H1 fun vs H2 => sp (x :: (vs ++ dvs)) H2 Q E) = fun x H1 => rMeth C m x H1 fun x => t σ H1 fun vs H2 => sp (x :: (vs ++ dvs)) H2 Q E := rfl
  exact q
theorem g_meth1 {C a dx : Addr} {m : Str} {fs : List (Str × V)} {k : V → Prop} (h : H a = some (.ins C dx fs)) (l : fs.lookup m = none) (q : k (.ref a)) : rMeth C m (.ref a) H k := ⟨a, dx, fs, rfl, h, l, q⟩
theorem g_make {C : Addr} {sp : Sp} {dvs : List V} {E : XK} {t : TA} (q : t σ H fun vs H1 => ∀ x dx, H1 x = none → H1 dx = none → dx ≠ x →
  sp (.ref x :: (vs ++ dvs)) (upd (upd H1 dx (.own x)) x (.ins C dx [])) (fun v H2 => v = .non ∧ Q (.ref x) H2) E) : tMake C sp dvs E t σ H Q := q
/-- statements -/
theorem g_seq {t u : TS} (q : t { D with nx := u D } σ H) : tSeq t u D σ H := q
theorem g_if {c : TT} {t u : TS} (q : c σ H fun b H1 => if b = true then t D σ H1 else u D σ H1) : tIfS c t u D σ H := q
theorem g_next (q : D.nx σ H) : tNext D σ H := q
theorem g_brk (q : D.bk σ H) : tBreak D σ H := q
theorem g_cont (q : D.ct σ H) : tCont D σ H := q
theorem g_drop (q : te σ H fun _ H1 => D.nx σ H1) : tDrop te D σ H := q
theorem g_ret (q : te σ H D.rt) : tRet te D σ H := q
theorem g_retN (q : D.rt .non H) : tRetN D σ H := q
theorem g_asg {g : TG} (q : te σ H fun x H1 => g x σ H1 D.nx) : tAsg te g D σ H := q
theorem g_name {N : L2.St → Hp → Prop} (q : N (σ.set i (some v)) H) : gName i v σ H N := q
theorem g_for {wi : TI} {g : TG} {tb : TS} (q : wi σ H fun J H1 => ∃ W : Nat → Nat → L2.St → Hp → Prop, (∃ m, W 0 m σ H1) ∧ ∀ i m σ H, W i m σ H → (J.stop i H ∧ D.nx σ H) ∨ (J.go i H ∧ ∃ N : L2.St → Hp → Prop, (∀ σ' H', N σ' H' → ∃ m', m' < m ∧ W (i + 1) m' σ' H') ∧ ∀ x H', J.yld i H x H' → g x σ H' fun σ2 H2 => tb { D with nx := N, ct := N, bk := D.nx } σ2 H2)) : tFor wi g tb D σ H := q
/-- unpacking -/
theorem g_gtup {n : Nat} {t : List V → L2.St → Hp → (L2.St → Hp → Prop) → Prop} {N : L2.St → Hp → Prop} {a : Addr} {xs : List V} (h : SqT K H a xs) (l : xs.length = n) (q : t xs σ H N) : gTup K n t (.ref a) σ H N := ⟨a, xs, rfl, h, l, q⟩
theorem g_gcons {t : TG} {u : List V → L2.St → Hp → (L2.St → Hp → Prop) → Prop} {N : L2.St → Hp → Prop} {vs : List V} (q : t v σ H fun σ' H' => u vs σ' H' N) : gCons t u (v :: vs) σ H N := ⟨v, vs, rfl, q⟩
theorem g_gnil {N : L2.St → Hp → Prop} (q : N σ H) : gNil [] σ H N := ⟨rfl, q⟩
/-- subscripts -/
theorem g_ixL {p : Addr} {xs : List V} {k : Int} (h : SqL K H p xs) (a : atI xs k = some v) (q : Q v H) : rIxL K (.ref p) (.int k) H Q := ⟨p, xs, k, v, rfl, rfl, h, a, q⟩
theorem g_ixT {p : Addr} {xs : List V} {k : Int} (h : SqT K H p xs) (a : atI xs k = some v) (q : Q v H) : rIxT K (.ref p) (.int k) H Q := ⟨p, xs, k, v, rfl, rfl, h, a, q⟩
theorem g_sub {to ti : TE} {t : V → V → V → Hp → (Hp → Prop) → Prop} {N : L2.St → Hp → Prop} (q : to σ H fun o H1 => ti σ H1 fun j H2 => t o j v H2 fun H3 => N σ H3) : gSub to ti t v σ H N := q
theorem g_setL {p : Addr} {xs : List V} {k : Int} {j : Nat} {N : Hp → Prop} (h : H p = some (.lst xs)) (a : ixN xs.length k = some j) (q : N (upd H p (.lst (xs.set j v)))) : rSetL (.ref p) (.int k) v H N := ⟨p, xs, k, j, rfl, rfl, h, a, q⟩
end
/-! ## 2. tests whose answer is a proposition -/
theorem ifP {p A B : Prop} [Decidable p] (h1 : p → A) (h2 : ¬ p → B) : if decide p = true then A else B := by
  by_cases h : p
  · rw [decide_eq_true h]; exact iteT (h1 h)
  · rw [decide_eq_false h]; exact iteF (h2 h)
theorem ifN {p A B : Prop} [Decidable p] (h1 : ¬ p → A) (h2 : p → B) : if (!decide p) = true then A else B := by
  by_cases h : p
  · rw [decide_eq_true h]; exact iteF (h2 h)
  · rw [decide_eq_false h]; exact iteT (h1 h)
theorem ifPt {p A B : Prop} [Decidable p] (hp : p) (h1 : A) : if decide p = true then A else B := by
  rw [decide_eq_true hp]; exact iteT h1
theorem ifPf {p A B : Prop} [Decidable p] (hp : ¬ p) (h1 : B) : if decide p = true then A else B := by
  rw [decide_eq_false hp]; exact iteF h1
theorem ifNt {p A B : Prop} [Decidable p] (hp : ¬ p) (h1 : A) : if (!decide p) = true then A else B := by
  rw [decide_eq_false hp]; exact iteT h1
theorem ifNf {p A B : Prop} [Decidable p] (hp : p) (h1 : B) : if (!decide p) = true then A else B := by
  rw [decide_eq_true hp]; exact iteF h1
/-! ## 3. heaps -/
/-- all that H tracks but M is as it was -/
def Kp (M : List Addr) (H H' : Hp) : Prop := ∀ b o, H b = some o → b ∉ M → H' b = some o
section
variable {M M' : List Addr} {H H1 H2 : Hp} {p : Addr} {o : HO}
theorem Kp.refl : Kp M H H := fun _ _ h _ => h
theorem Kp.trans (a : Kp M H H1) (b : Kp M H1 H2) : Kp M H H2 := fun c u h n => b c u (a c u h n) n
theorem Kp.mono (a : Kp M H H1) (h : ∀ b, b ∈ M → b ∈ M' ∨ H b = none) : Kp M' H H1 := fun c u e n => a c u e fun m => by
  rcases h c m with z | z
  · exact n z
  · rw [z] at e; cases e
theorem Kp.new (a : Kp M H H1) (n : H1 p = none) : Kp M H (upd H1 p o) := fun c u e m => by
  have z := a c u e m
  rw [upd_ne (ne_of_none z n)]
  exact z
theorem Kp.mut (a : Kp M H H1) (m : p ∈ M) : Kp M H (upd H1 p o) := fun c u e n => by
  rw [upd_ne fun z => n (by rw [z]; exact m)]
  exact a c u e n
theorem Kp.own (a : Kp M H H1) (n : H p = none) : Kp M H (upd H1 p o) := fun c u e m => by
  rw [upd_ne (ne_of_none e n)]
  exact a c u e m
theorem Kp.same (h : Same H H1) : Kp M H H1 := fun c u e _ => h c u e
theorem Kp.to_same (h : Kp [] H H1) : Same H H1 := fun c u e => h c u e (by simp)
theorem Kp.free (h : Kp [] H H1) (n : H1 p = none) : H p = none := (Kp.to_same h).free n
theorem Kp.seq {K : PySem.W.Frag} {a : Addr} {xs : List V} (h : Kp M H H1) (n : a ∉ M) (q : SqL K H a xs) : SqL K H1 a xs := by
  rcases q with (q | ⟨ob, q⟩) | q
  · exact .inl (.inl (h _ _ q n))
  · exact .inl (.inr ⟨ob, h _ _ q n⟩)
  · exact .inr q
theorem Kp.sqT {K : PySem.W.Frag} {a : Addr} {xs : List V} (h : Kp M H H1) (n : a ∉ M) (q : SqT K H a xs) : SqT K H1 a xs := by
  rcases q with (q | ⟨ob, q⟩) | q
  · exact .inl (.inl (h _ _ q n))
  · exact .inl (.inr ⟨ob, h _ _ q n⟩)
  · exact .inr q
end
theorem ne_of_none' {H : Hp} {a b : Addr} {o : HO} (h' : H b = none) (h : H a = some o) : a ≠ b := ne_of_none h h'
theorem upd_free {H : Hp} {a b : Addr} {o : HO} (h : upd H a o b = none) : b ≠ a ∧ H b = none := by
  have n : b ≠ a := fun e => by rw [e, upd_same] at h; cases h
  exact ⟨n, by rw [upd_ne n] at h; exact h⟩
theorem g_notin {K : PySem.W.Frag} {H : Hp} {Q : VK} {x : V} {p : Addr} {xs : List V} (h : SqL K H p xs ∨ SqT K H p xs) (h1 : flatV x = true) (h2 : xs.all flatV = true) (q : Q (.bl (!inV x xs)) H) : rIn K true x (.ref p) H Q := ⟨p, xs, rfl, h, h1, h2, q⟩
/-! ## 4. lists by names (dicts with text keys) -/
section
variable {α : Type}
def aGet (L : List (Str × α)) (k : Str) : Option α := (L.find? fun e => decide (e.1 = k)).map (·.2)
def aDrop (L : List (Str × α)) (k : Str) : List (Str × α) := L.filter fun e => decide (e.1 ≠ k)
def aPut (L : List (Str × α)) (k : Str) (v : α) : List (Str × α) :=
  if (L.any fun e => decide (e.1 = k)) = true then L.map (fun e => if e.1 = k then (e.1, v) else e) else L ++ [(k, v)]
def enc (g : α → V) (L : List (Str × α)) : List (Key × V) := L.map fun e => (Sum.inr e.1, g e.2)
variable {g : α → V}
theorem key_inr (a b : Str) : decide ((Sum.inr a : Key) = Sum.inr b) = decide (a = b) := key_rr a b
theorem enc_len (L : List (Str × α)) : (enc g L).length = L.length := List.length_map ..
theorem enc_keys (L : List (Str × α)) : (enc g L).map (·.1) = (L.map (·.1)).map Sum.inr := by
  unfold enc
  rw [List.map_map, List.map_map]
  rfl
theorem valV_enc (k : Str) : ∀ L : List (Str × α), valV (enc g L) (Sum.inr k) = (aGet L k).map g
  | [] => rfl
  | e :: r => by
    have ih := valV_enc k r
    by_cases h : e.1 = k
    · have h1 : valV (enc g (e :: r)) (Sum.inr k) = some (g e.2) := valV_pos (p := (Sum.inr e.1, g e.2)) (by rw [h])
      rw [h1]
      simp [aGet, List.find?_cons, h]
    · have h1 : valV (enc g (e :: r)) (Sum.inr k) = valV (enc g r) (Sum.inr k) := valV_neg (p := (Sum.inr e.1, g e.2)) (fun z => h (Sum.inr.inj z))
      rw [h1, ih]
      simp [aGet, List.find?_cons, h]
theorem putK_enc (k : Str) (v : α) (L : List (Str × α)) : putK (enc g L) (Sum.inr k) (g v) = enc g (aPut L k v) := by
  have e1 : ((enc g L).any fun kv => decide (kv.1 = (Sum.inr k : Key))) = L.any fun e => decide (e.1 = k) := by
    unfold enc
    rw [List.any_map]
    congr 1
    funext e
    exact key_rr e.1 k
  unfold putK aPut
  rw [e1]
  split
  · unfold enc
    rw [List.map_map, List.map_map]
    refine List.map_congr_left fun e _ => ?_
    show (if (Sum.inr e.1 : Key) = Sum.inr k then ((Sum.inr e.1 : Key), g v) else (Sum.inr e.1, g e.2)) = _
    by_cases h : e.1 = k
    · rw [if_pos (by rw [h])]
      show _ = (Sum.inr (if e.1 = k then (e.1, v) else e).1, g (if e.1 = k then (e.1, v) else e).2)
      rw [if_pos h]
    · rw [if_neg (fun z => h (Sum.inr.inj z))]
      show _ = (Sum.inr (if e.1 = k then (e.1, v) else e).1, g (if e.1 = k then (e.1, v) else e).2)
      rw [if_neg h]
  · unfold enc
    rw [List.map_append]
    rfl
theorem dropK_enc (k : Str) (L : List (Str × α)) : dropK (enc g L) (Sum.inr k) = enc g (aDrop L k) := by
  unfold dropK aDrop enc
  rw [List.filter_map]
  congr 1
  refine List.filter_congr fun e _ => ?_
  exact decide_eq_decide.mpr ⟨fun a z => a (congrArg Sum.inr z), fun a z => a (Sum.inr.inj z)⟩
theorem aGet_mem {L : List (Str × α)} {k : Str} {v : α} (h : aGet L k = some v) : (k, v) ∈ L := by
  unfold aGet at h
  obtain ⟨e, he, rfl⟩ := Option.map_eq_some_iff.mp h
  have h1 := List.mem_of_find?_eq_some he
  have h2 : decide (e.1 = k) = true := List.find?_some (p := fun e : Str × α => decide (e.1 = k)) he
  have h3 : e.1 = k := of_decide_eq_true h2
  rw [← h3]
  exact h1
theorem aGet_none {L : List (Str × α)} {k : Str} : aGet L k = none ↔ ∀ v, (k, v) ∉ L := by
  constructor
  · intro h v m
    unfold aGet at h
    have := List.find?_eq_none.mp (Option.map_eq_none_iff.mp h) _ m
    simp at this
  · intro h
    cases e : aGet L k with
    | none => rfl
    | some v => exact absurd (aGet_mem e) (h v)
theorem aGet_of_mem {L : List (Str × α)} {k : Str} {v : α} (nd : (L.map (·.1)).Nodup) (h : (k, v) ∈ L) : aGet L k = some v := by
  induction L with
  | nil => cases h
  | cons e r ih =>
    obtain ⟨n1, n2⟩ := List.nodup_cons.mp (show (e.1 :: r.map (·.1)).Nodup from nd)
    rcases List.mem_cons.mp h with z | z
    · subst z
      simp [aGet, List.find?_cons]
    · have ne : e.1 ≠ k := fun q => n1 (by rw [q]; exact List.mem_map.mpr ⟨_, z, rfl⟩)
      have := ih n2 z
      simp only [aGet, List.find?_cons, decide_eq_false ne] at this ⊢
      exact this
theorem aDrop_mem {L : List (Str × α)} {k : Str} {e : Str × α} : e ∈ aDrop L k ↔ e ∈ L ∧ e.1 ≠ k := by
  unfold aDrop
  rw [List.mem_filter]
  simp
theorem aPut_new {L : List (Str × α)} {k : Str} (v : α) (h : aGet L k = none) : aPut L k v = L ++ [(k, v)] := by
  unfold aPut
  rw [if_neg]
  intro z
  obtain ⟨e, he, q⟩ := List.any_eq_true.mp z
  exact aGet_none.mp h e.2 (by rw [← of_decide_eq_true q]; exact he)
theorem aPut_mem {L : List (Str × α)} {k : Str} {v : α} {e : Str × α} (h : e ∈ aPut L k v) : e = (k, v) ∨ (e ∈ L ∧ e.1 ≠ k) := by
  unfold aPut at h
  split at h
  · obtain ⟨u, hu, rfl⟩ := List.mem_map.mp h
    by_cases z : u.1 = k
    · rw [if_pos z, z]; exact .inl rfl
    · rw [if_neg z]; exact .inr ⟨hu, z⟩
  · rename_i hn
    rcases List.mem_append.mp h with z | z
    · refine .inr ⟨z, fun q => hn (List.any_eq_true.mpr ⟨e, z, decide_eq_true q⟩)⟩
    · exact .inl (List.mem_singleton.mp z)
theorem aPut_keys {L : List (Str × α)} {k : Str} (v : α) : (aPut L k v).map (·.1) = if (L.any fun e => decide (e.1 = k)) = true then L.map (·.1) else L.map (·.1) ++ [k] := by
  unfold aPut
  split
  · rw [List.map_map]
    refine List.map_congr_left fun e _ => ?_
    show (if e.1 = k then (e.1, v) else e).1 = e.1
    split <;> rfl
  · rw [List.map_append]
    rfl
theorem aPut_nd {L : List (Str × α)} {k : Str} (v : α) (nd : (L.map (·.1)).Nodup) : ((aPut L k v).map (·.1)).Nodup := by
  rw [aPut_keys]
  split
  · exact nd
  · rename_i hn
    refine nd_snoc nd fun m => hn ?_
    obtain ⟨e, he, q⟩ := List.mem_map.mp m
    exact List.any_eq_true.mpr ⟨e, he, decide_eq_true q⟩
theorem aDrop_nd {L : List (Str × α)} {k : Str} (nd : (L.map (·.1)).Nodup) : ((aDrop L k).map (·.1)).Nodup := by
  unfold aDrop
  exact nd.sublist ((List.filter_sublist).map _)
theorem aPut_len {L : List (Str × α)} {k : Str} (v : α) : (aPut L k v).length ≤ L.length + 1 := by
  unfold aPut
  split
  · rw [List.length_map]; omega
  · rw [List.length_append]; exact Nat.le_refl _
theorem aDrop_len {L : List (Str × α)} {k : Str} : (aDrop L k).length ≤ L.length := List.length_filter_le ..
theorem aGet_put (L : List (Str × α)) (k j : Str) (v : α) : aGet (aPut L k v) j = if j = k then some v else aGet L j := by
  have h := valV_put (enc (fun _ => V.non) L) (Sum.inr k) (Sum.inr j) V.non
  unfold aPut aGet
  by_cases a : (L.any fun e => decide (e.1 = k)) = true
  · rw [if_pos a]
    clear h
    induction L with
    | nil => simp at a
    | cons e r ih =>
      rw [List.map_cons, List.find?_cons, List.find?_cons]
      by_cases hk : e.1 = k
      · rw [if_pos hk]
        by_cases hj : e.1 = j
        · have : j = k := hj.symm.trans hk
          subst this
          simp [hk]
        · have njk : ¬ j = k := fun z => hj (hk.trans z.symm)
          simp only [decide_eq_false hj, if_neg njk]
          have e2 : (r.map fun e => if e.1 = k then (e.1, v) else e).find? (fun e => decide (e.1 = j)) = r.find? fun e => decide (e.1 = j) := by
            clear ih a
            induction r with
            | nil => rfl
            | cons u t ih2 =>
              rw [List.map_cons, List.find?_cons, List.find?_cons, ih2]
              by_cases hu : u.1 = k
              · rw [if_pos hu]
                have nj : ¬ u.1 = j := fun z => njk (z.symm.trans hu)
                simp only [decide_eq_false nj]
              · rw [if_neg hu]
          rw [e2]
      · rw [if_neg hk]
        by_cases hj : e.1 = j
        · have njk : ¬ j = k := fun z => hk (hj.trans z)
          simp [hj, njk]
        · simp only [decide_eq_false hj]
          have a2 : (r.any fun e => decide (e.1 = k)) = true := by
            rw [List.any_cons, decide_eq_false hk, Bool.false_or] at a
            exact a
          exact ih a2
  · rw [if_neg a]
    clear h
    have hn : ∀ e ∈ L, e.1 ≠ k := fun e he q => a (List.any_eq_true.mpr ⟨e, he, decide_eq_true q⟩)
    rw [List.find?_append]
    by_cases hj : j = k
    · subst hj
      have e1 : L.find? (fun e => decide (e.1 = j)) = none := List.find?_eq_none.mpr fun e he => by simpa using hn e he
      simp [e1]
    · rw [if_neg hj]
      have e2 : ([(k, v)] : List (Str × α)).find? (fun e => decide (e.1 = j)) = none := by
        rw [List.find?_cons]
        simp only [decide_eq_false (fun z : k = j => hj z.symm)]
        rfl
      rw [e2]
      simp
theorem aGet_drop (L : List (Str × α)) (k j : Str) : aGet (aDrop L k) j = if j = k then none else aGet L j := by
  unfold aDrop aGet
  induction L with
  | nil => simp
  | cons e r ih =>
    rw [List.filter_cons]
    by_cases hk : e.1 = k
    · rw [if_neg (by simp [hk])]
      rw [ih]
      by_cases hj : j = k
      · simp [hj]
      · have : ¬ e.1 = j := fun z => hj (z.symm.trans hk)
        simp [hj, List.find?_cons, this]
    · rw [if_pos (by simp [hk]), List.find?_cons]
      by_cases hj : e.1 = j
      · have : ¬ j = k := fun z => hk (hj.trans z)
        simp [hj, this, List.find?_cons]
      · simp only [decide_eq_false hj]
        rw [ih]
        simp [List.find?_cons, hj]
end
/-! ## 5. defs that may raise, by their promises -/
section
variable (P : Program) (w : World) (K : PySem.W.Frag) (mg : Str → Option Value) (base : Heap)
/-- a def by its name -/
structure CalX (k : Nat) (x : Str) (sp : Sp) (dvs : List V) : Prop where
  ex : ∃ (f : Addr) (fd : FuncData) (ps : List Str) (ds : List Value), FnOk P w K mg base (L2.CX P w) k f fd ps sp ∧ mg x = some (.ref f) ∧ PySem.W.keepIn K (.ref f) = true ∧ Binds K fd ps ds ∧ Vals dvs ds
/-- a class by its name -/
structure MakX (k : Nat) (x : Str) (C : Addr) (sp : Sp) (dvs : List V) : Prop where
  ex : ∃ (f : Addr) (fd : FuncData) (ps : List Str) (ds : List Value), Mk K C f ∧ FnOk P w K mg base (L2.CX P w) k f fd ps sp ∧ mg x = some (.ref C) ∧ Binds K fd ps ds ∧ Vals dvs ds
/-- a method of a class -/
structure MetX (k : Nat) (C : Addr) (m : Str) (sp : Sp) (dvs : List V) : Prop where
  ex : ∃ (f : Addr) (fd : FuncData) (ps : List Str) (ds : List Value), Cls K C ∧ Meth K C m f ∧ FnOk P w K mg base (L2.CX P w) k f fd ps sp ∧ Binds K fd ps ds ∧ Vals dvs ds
end
section
variable {X : Cx} {k j : Nat} {x m : Str} {C : Addr} {sp : Sp} {dvs : List V} {E : XK} {p pos apos : Pos} {e o : Expr} {es : List Expr} {t : TA} {ta : TE}
theorem pe_cX (c : CalX X.prog X.w X.K X.mg X.base k x sp dvs) (hr : Room j X.A) (hk : k ≤ j) (hg : Gl X x) (hx : Passes (L2.CX X.prog X.w) X E) (ha : PA X (e :: es) t) (hdb : (x == ("__debug__" : Str)) = false := by decide)
    (he : starEach (e :: es) X.env = (false, eval e X.env) :: starEach es X.env := by rfl) (hpl : (backTo pos (starEach es X.env)).any (·.1) = false := by rfl) : PE X (.Call (.Name x p) (e :: es) [] pos) (tCall sp dvs E t) := by
  obtain ⟨f, fd, ps, ds, F, hm, kp, hb, hd⟩ := c.ex
  exact pe_call F (hr.mono hk) hg hm kp hb hd hx ha hdb he hpl
theorem pe_cX0 (c : CalX X.prog X.w X.K X.mg X.base k x sp dvs) (hr : Room j X.A) (hk : k ≤ j) (hg : Gl X x) (hx : Passes (L2.CX X.prog X.w) X E) (hdb : (x == ("__debug__" : Str)) = false := by decide) : PE X (.Call (.Name x p) [] [] pos) (tCall sp dvs E tNil) := by
  obtain ⟨f, fd, ps, ds, F, hm, kp, hb, hd⟩ := c.ex
  exact pe_call0 F (hr.mono hk) hg hm kp hb hd hx hdb
theorem pe_mkX (c : MakX X.prog X.w X.K X.mg X.base k x C sp dvs) (hr : Room j X.A) (hk : k + 1 ≤ j) (hg : Gl X x) (hx : Passes (L2.CX X.prog X.w) X E) (ha : PA X (e :: es) t) (hdb : (x == ("__debug__" : Str)) = false := by decide)
    (he : starEach (e :: es) X.env = (false, eval e X.env) :: starEach es X.env := by rfl) (hpl : (backTo pos (starEach es X.env)).any (·.1) = false := by rfl) : PE X (.Call (.Name x p) (e :: es) [] pos) (tMake C sp dvs E t) := by
  obtain ⟨f, fd, ps, ds, M, F, hm, hb, hd⟩ := c.ex
  exact pe_make M F (hr.mono hk) hg hm hb hd hx ha hdb he hpl
theorem pe_mkX0 (c : MakX X.prog X.w X.K X.mg X.base k x C sp dvs) (hr : Room j X.A) (hk : k + 1 ≤ j) (hg : Gl X x) (hx : Passes (L2.CX X.prog X.w) X E) (hdb : (x == ("__debug__" : Str)) = false := by decide) : PE X (.Call (.Name x p) [] [] pos) (tMake C sp dvs E tNil) := by
  obtain ⟨f, fd, ps, ds, M, F, hm, hb, hd⟩ := c.ex
  exact pe_make0 M F (hr.mono hk) hg hm hb hd hx hdb
theorem pe_mX {pl : Sem Bool} (c : MetX X.prog X.w X.K X.mg X.base k C m sp dvs) (hr : Room j X.A) (hk : k ≤ j) (hx : Passes (L2.CX X.prog X.w) X E) (he : PE X o ta) (ha : PA X (e :: es) t)
    (hst : starEach (e :: es) X.env = (false, eval e X.env) :: starEach es X.env := by rfl) (hpl : (backTo pos (starEach es X.env)).any (·.1) = false := by rfl)
    (ht : eval (.Call (.Attribute o m apos) (e :: es) [] pos) X.env = (do
      let ov ← eval o X.env
      standAt apos.atName
      let (f, first) ← holding [ov] (getMethod ov m pl)
      callWith pos f first (backTo pos (starEach (e :: es) X.env)) (backToKw pos (keywordEach [] X.env))) := by rfl) :
    PE X (.Call (.Attribute o m apos) (e :: es) [] pos) (tMeth C m sp dvs E ta t) := by
  obtain ⟨f, fd, ps, ds, c1, M, F, hb, hd⟩ := c.ex
  exact pe_meth he c1 M F (hr.mono hk) hb hd hx ha hst hpl ht
theorem pe_mX0 {pl : Sem Bool} (c : MetX X.prog X.w X.K X.mg X.base k C m sp dvs) (hr : Room j X.A) (hk : k ≤ j) (hx : Passes (L2.CX X.prog X.w) X E) (he : PE X o ta)
    (ht : eval (.Call (.Attribute o m apos) [] [] pos) X.env = (do
      let ov ← eval o X.env
      standAt apos.atName
      let (f, first) ← holding [ov] (getMethod ov m pl)
      callWith pos f first (backTo pos (starEach [] X.env)) (backToKw pos (keywordEach [] X.env))) := by rfl) :
    PE X (.Call (.Attribute o m apos) [] [] pos) (tMeth C m sp dvs E ta tNil) := by
  obtain ⟨f, fd, ps, ds, c1, M, F, hb, hd⟩ := c.ex
  exact pe_meth0 he c1 M F (hr.mono hk) hb hd hx ht
end
/-! ## 6. the context of a def that may raise -/
section
variable {P : Program} {w : World} {K : PySem.W.Frag} {mg : Str → Option Value} {base : Heap} {N : List Str} {qual : Str} {scope : Scope} {f : Addr} {cd : Value} {A : Around} {outer : List Env} {s : Shared} {H : Hp} {E : XK}
theorem tkX : Takes (cxOf (L2.CX P w) P w K mg base N qual scope f cd A outer s H E) (fun cls d _ H => E cls d H) := takes_of rfl rfl rfl rfl
theorem paX : Passes (L2.CX P w) (cxOf (L2.CX P w) P w K mg base N qual scope f cd A outer s H E) E := passes_call tkX fun _ _ _ _ z => z
theorem poX : PassesOwn (model P w) (A.deeper (envOfC qual scope s.heap.objs.size f cd)) (cxOf (L2.CX P w) P w K mg base N qual scope f cd A outer s H E).env (cxOf (L2.CX P w) P w K mg base N qual scope f cd A outer s H E).xe := passes_of rfl
end
theorem hU_of {A : Around} {k : Nat} (hr : Room k A) : A.units + 64 < cLine := by
  have := hr.un
  omega
theorem hV_of {A : Around} {k : Nat} (hr : Room k A) : A.units < cLine := by
  have := hr.un
  omega
/-! ## 7. the rules with the written part said (K), readings by names -/
section
variable {X : Cx} {K : PySem.W.Frag} {e o a b l value : Expr} {es : List Expr} {f : Str} {pos pos' tpos p : Pos} {ta tv tb te tl : TE} {tg : Expr} {t : TA}
theorem pe_fldK (hK : X.K = K) (he : PE X e ta) (hb : attributeBase e f X.env (eval e X.env) = eval e X.env) : PE X (.Attribute e f pos) (tFld K ta f) := by
  subst hK; exact pe_fld he hb
theorem ps_fldK (hK : X.K = K) (ha : PE X o ta) (hv : PE X value tv) (hs : swapsWith value (some (.Attribute o f pos')) pos.line X.env = pure false) : PS X (.Assign [.Attribute o f pos'] value pos) (sFld K ta tv f) := by
  subst hK; exact ps_fld ha hv hs
theorem ps_fldaugK {op : Operator} {rd : V → V → Hp → VK → Prop} (hK : X.K = K) (ha : PE X o ta) (hv : PE X value tv) (hop : InOp X op rd) : PS X (.AugAssign (.Attribute o f tpos) op value pos) (sFldAug K ta tv rd f) := by
  subst hK; exact ps_fldaug ha hv hop
theorem ix_listK (hK : X.K = K) : IxR X (rIxL K) := by subst hK; exact ix_list
theorem ix_tupK (hK : X.K = K) : IxR X (rIxT K) := by subst hK; exact ix_tup
theorem op_inK (hK : X.K = K) : OpR X (compareOp .In) (rIn K false) := by subst hK; exact op_in_seq
theorem op_notInK (hK : X.K = K) : OpR X (compareOp .NotIn) (rIn K true) := by subst hK; exact op_notIn_seq
theorem op_eqDK (hK : X.K = K) (hu : X.A.units + 64 < cLine) : OpR X (compareOp .Eq) (rEqD K) := by subst hK; exact op_eqD hu
theorem op_neDK (hK : X.K = K) (hu : X.A.units + 64 < cLine) : OpR X (compareOp .NotEq) (rNeD K) := by subst hK; exact op_neD hu
def rLenA (K : PySem.W.Frag) : List V → Hp → VK → Prop := fun xs H Q => ∃ x n, xs = [x] ∧ LenV K x H n ∧ Q (.int n) H
theorem call_lenK (hK : X.K = K) : CallR X (.builtin "len") (rLenA K) := by subst hK; exact call_len
def rLenD : List V → Hp → VK → Prop := fun xs H Q => ∃ a kvs, xs = [V.ref a] ∧ H a = some (.dK kvs) ∧ Q (.int kvs.length) H
theorem call_lenDN : CallR X (.builtin "len") rLenD := call_lenD
def tTruK (K : PySem.W.Frag) (ta : TE) : TT := fun σ H Q => ta σ H fun x H' => ∃ k, TruV K x H' k ∧ Q k H'
theorem pt_truthK (hK : X.K = K) (ha : PE X a ta) (he : ∀ whole, isTrue a X.env whole = (do let v ← whole; standAt a.pos; holding [v] (truthy v))) : PT X a (tTruK K ta) := by
  subst hK; exact pt_truth ha he
theorem pe_tupleOfK (hK : X.K = K) (hg : Gl X "tuple") (hm : X.mg "tuple" = none) (ha : PE X a ta) (na : starEach [a] X.env = (false, eval a X.env) :: starEach [] X.env := by rfl) : PE X (.Call (.Name "tuple" p) [a] [] pos) (tThen ta (kTup K)) := by
  subst hK; exact pe_tupleOf hg hm ha na
theorem pi_listK (hK : X.K = K) (hl : PE X l tl) : PI X tg l (iList K tl) := by subst hK; exact pi_list hl
theorem pi_tupK (hK : X.K = K) (hl : PE X l tl) : PI X tg l (iTup K tl) := by subst hK; exact pi_tup hl
theorem sl_listK (hK : X.K = K) : SlR X (rSlL K) := by subst hK; exact sl_list
theorem sl_tupAK (hK : X.K = K) : SlR X (rSlA K) := by subst hK; exact sl_tupA
theorem pg_tupK {k n : Nat} {t : TGs} (hK : X.K = K) (hc : X.calm = true) (h : PGs X es t) (hn : (assignEach es X.env).length = n := by rfl) (hst : (assignEach es X.env).findIdx? (·.1) = none := by rfl) : PG X (.Tuple es k pos) (gTup K n t) := by
  subst hK; exact pg_tup hc h hn hst
theorem pg_unlK {k n : Nat} {t : TGs} (hK : X.K = K) (hc : X.calm = true) (h : PGs X es t) (hn : (assignEach es X.env).length = n := by rfl) (hst : (assignEach es X.env).findIdx? (·.1) = none := by rfl) : PG X (.Tuple es k pos) (gUnl K n t) := by
  subst hK; exact pg_unl hc h hn hst
theorem op_catTK (hK : X.K = K) : OpR X (binaryOp .Add) (rCatT K) := by subst hK; exact op_catT
def rDictP (K : PySem.W.Frag) : List V → Hp → VK → Prop := fun xs H Q => ∃ (a : Addr) (ps : List Addr) (kvs : List (Key × V)), xs = [.ref a] ∧ SqL K H a (ps.map V.ref) ∧ Paired (fun p kv => SqT K H p [kV kv.1, kv.2]) ps kvs ∧ ∀ p, H p = none → Q (.ref p) (upd H p (.dK (mergeK [] kvs)))
theorem call_dictPK (hK : X.K = K) (hc : X.calm = true) : CallR X (.type "dict") (rDictP K) := by subst hK; exact call_dictP hc
theorem cr_sortedSK (hK : X.K = K) : CallR X (.builtin "sorted") (rSortedS K) := by subst hK; exact cr_sortedS
theorem cr_sortedK (hK : X.K = K) : CallR X (.builtin "sorted") (rSorted K) := by subst hK; exact cr_sorted
def rSortD : List V → Hp → VK → Prop := fun xs H Q => ∃ (a : Addr) (kvs : List (Key × V)) (ks : List Str), xs = [.ref a] ∧ Rd H a (.dK kvs) ∧ kvs.map (·.1) = ks.map Sum.inr ∧ ks.length < 64 ∧ ∀ ys p, ys.Perm ks → sortedS ys = true → H p = none → Q (.ref p) (upd H p (.lst (ys.map V.str)))
theorem call_sortedDN (hc : X.calm = true) : CallR X (.builtin "sorted") rSortD := call_sortedD hc
def rAbs : List V → Hp → VK → Prop := fun xs H Q => ∃ i, xs = [.int i] ∧ Q (.int (if i < 0 then -i else i)) H
theorem call_absN : CallR X (.builtin "abs") rAbs := call_abs
def rMin2 : List V → Hp → VK → Prop := fun xs H Q => ∃ i j, xs = [.int i, .int j] ∧ Q (.int (if j < i then j else i)) H
theorem call_min2N (hc : X.calm = true) : CallR X (.builtin "min") rMin2 := call_min2 hc
def rMax2 : List V → Hp → VK → Prop := fun xs H Q => ∃ i j, xs = [.int i, .int j] ∧ Q (.int (if j > i then j else i)) H
theorem call_max2N (hc : X.calm = true) : CallR X (.builtin "max") rMax2 := call_max2 hc
def rInt1 : List V → Hp → VK → Prop := fun xs H Q => (∃ i, xs = [.int i] ∧ Q (.int i) H) ∨ ∃ k, xs = [.bl k] ∧ Q (.int (if k then 1 else 0)) H
theorem call_int1N : CallR X (.type "int") rInt1 := call_int1
def rStrI : List V → Hp → VK → Prop := fun xs H Q => ∃ i, xs = [.int i] ∧ i.natAbs.log2 < 1920 ∧ Q (.str (toString i)) H
theorem call_str_intN : CallR X (.type "str") rStrI := call_str_int
def rEqDict : R2 := fun x y H Q => ∃ a b kvs, x = .ref a ∧ y = .ref b ∧ H a = some (.dK kvs) ∧ H b = some (.dK kvs) ∧ (kvs.map (·.1)).Nodup ∧ (∀ p ∈ kvs, flatB p.2 = true) ∧ Q (.bl true) H
theorem op_eq_dictN (hu : X.A.units < cLine) : OpR X (compareOp .Eq) rEqDict := op_eq_dict hu
def rIsN : R2 := fun x y H Q => y = .non ∧ Q (.bl (decide (x = .non))) H
theorem op_isNN : OpR X (compareOp .Is) rIsN := op_isN
def rNotN : R2 := fun x y H Q => y = .non ∧ Q (.bl (!decide (x = .non))) H
theorem op_notNN : OpR X (compareOp .IsNot) rNotN := op_notN
def rAddS : R2 := fun x y H Q => ∃ i j, x = .str i ∧ y = .str j ∧ i.length + j.length ≤ sizeLine ∧ Q (.str (i ++ j)) H
theorem op_add_strN : OpR X (binaryOp .Add) rAddS := op_add_str
end
/-! ## 8. their readings -/
section
variable {K : PySem.W.Frag} {σ : L2.St} {H : Hp} {Q : VK} {v x y : V} {ta tb tc te td ty tx : TE} {i : Nat} {D : Ends} {QB : Bool → Hp → Prop} {a : Addr} {kvs : List (Key × V)} {k : Key}
theorem g_abs {i : Int} (q : Q (.int (if i < 0 then -i else i)) H) : rAbs [.int i] H Q := ⟨i, rfl, q⟩
theorem g_min {i j : Int} (q : Q (.int (min i j)) H) : rMin2 [.int i, .int j] H Q := ⟨i, j, rfl, by
  have e : (if j < i then j else i) = min i j := by
    rw [Int.min_def]
    split <;> split <;> omega
  rw [e]
  exact q⟩
theorem g_max {i j : Int} (q : Q (.int (max i j)) H) : rMax2 [.int i, .int j] H Q := ⟨i, j, rfl, by
  have e : (if j > i then j else i) = max i j := by
    rw [Int.max_def]
    split <;> split <;> omega
  rw [e]
  exact q⟩
theorem g_int {i : Int} (q : Q (.int i) H) : rInt1 [.int i] H Q := .inl ⟨i, rfl, q⟩
theorem g_intB {b : Bool} (q : Q (.int (if b then 1 else 0)) H) : rInt1 [.bl b] H Q := .inr ⟨b, rfl, q⟩
theorem g_lenL {p : Addr} {xs : List V} (h : SqL K H p xs) (q : Q (.int xs.length) H) : rLenA K [.ref p] H Q := ⟨.ref p, xs.length, rfl, .inl ⟨xs, h, rfl⟩, q⟩
theorem g_lenT {p : Addr} {xs : List V} (h : SqT K H p xs) (q : Q (.int xs.length) H) : rLenA K [.ref p] H Q := ⟨.ref p, xs.length, rfl, .inr ⟨xs, h, rfl⟩, q⟩
theorem g_lenS {z : Str} (h : z.length ≤ sizeLine) (q : Q (.int z.length) H) : rLenA K [.str z] H Q := ⟨.str z, z.length, rfl, ⟨h, rfl⟩, q⟩
theorem g_lenD (h : H a = some (.dK kvs)) (q : Q (.int kvs.length) H) : rLenD [.ref a] H Q := ⟨a, kvs, rfl, h, q⟩
theorem g_isN (q : Q (.bl (decide (x = .non))) H) : rIsN x .non H Q := ⟨rfl, q⟩
theorem g_notN (q : Q (.bl (!decide (x = .non))) H) : rNotN x .non H Q := ⟨rfl, q⟩
theorem g_then {k : V → Hp → VK → Prop} (q : ta σ H fun x H1 => k x H1 Q) : tThen ta k σ H Q := q
theorem g_tupL {p : Addr} {xs : List V} (h : SqL K H p xs) (q : ∀ r, H r = none → Q (.ref r) (upd H r (.tup xs))) : kTup K (.ref p) H Q := .inl ⟨p, xs, rfl, h, q⟩
theorem g_tupT {p : Addr} {xs : List V} (h : SqT K H p xs) (q : Q (.ref p) H) : kTup K (.ref p) H Q := .inr ⟨p, xs, rfl, h, q⟩
theorem g_in {neg : Bool} {p : Addr} {xs : List V} (h : SqL K H p xs ∨ SqT K H p xs) (h1 : flatV x = true) (h2 : xs.all flatV = true) (q : Q (.bl (if neg then !inV x xs else inV x xs)) H) : rIn K neg x (.ref p) H Q := ⟨p, xs, rfl, h, h1, h2, q⟩
theorem g_eqD {d e : PyData} (h1 : Dp K H x d) (h2 : Dp K H y e) (s1 : SeqAt.shaped d = true) (s2 : SeqAt.shaped e = true) (q : Q (.bl (PyData.eqv d e)) H) : rEqD K x y H Q := ⟨d, e, h1, h2, s1, s2, q⟩
theorem g_neD {d e : PyData} (h1 : Dp K H x d) (h2 : Dp K H y e) (s1 : SeqAt.shaped d = true) (s2 : SeqAt.shaped e = true) (q : Q (.bl (!PyData.eqv d e)) H) : rNeD K x y H Q := ⟨d, e, h1, h2, s1, s2, q⟩
/-- dicts -/
theorem kV_inr (z : Str) : V.str z = kV (Sum.inr z) := rfl
def rDGet (x y : V) (H2 : Hp) (Q : VK) : Prop := ∃ a v, x = .ref a ∧ DGet H2 a y (some v) ∧ Q v H2
theorem g_dget (q : td σ H fun x H1 => ty σ H1 fun y H2 => rDGet x y H2 Q) : tDGet td ty σ H Q := q
theorem g_dgetS {z : Str} (h : H a = some (.dK kvs)) (e : valV kvs (Sum.inr z) = some v) (q : Q v H) : rDGet (.ref a) (.str z) H Q := ⟨a, v, rfl, by rw [← e]; exact DGet.k (k := Sum.inr z) h, q⟩
theorem g_dgetF {z : Str} {ob : Obj} (h : H a = some (.frz ob (.dK kvs))) (e : valV kvs (Sum.inr z) = some v) (q : Q v H) : rDGet (.ref a) (.str z) H Q := ⟨a, v, rfl, by rw [← e]; exact .inl ⟨kvs, Sum.inr z, .inr ⟨ob, h⟩, rfl, rfl⟩, q⟩
def rDIn (neg : Bool) (y x : V) (H2 : Hp) (Q : VK) : Prop := ∃ a o, x = .ref a ∧ DGet H2 a y o ∧ Q (.bl (if neg then !o.isSome else o.isSome)) H2
theorem g_din (q : ty σ H fun y H1 => td σ H1 fun x H2 => rDIn false y x H2 Q) : tDIn ty td σ H Q := by
  have e : (fun y H1 => td σ H1 fun x H2 => rDIn false y x H2 Q) = fun y H1 => td σ H1 fun x H2 => ∃ a o, x = .ref a ∧ DGet H2 a y o ∧ Q (.bl o.isSome) H2 := by
    funext y H1
    congr 1
  rw [e] at q
  exact q
theorem g_dnotin (q : ty σ H fun y H1 => td σ H1 fun x H2 => rDIn true y x H2 Q) : tDNotIn ty td σ H Q := by
  have e : (fun y H1 => td σ H1 fun x H2 => rDIn true y x H2 Q) = fun y H1 => td σ H1 fun x H2 => ∃ a o, x = .ref a ∧ DGet H2 a y o ∧ Q (.bl (!o.isSome)) H2 := by
    funext y H1
    congr 1
  rw [e] at q
  exact q
theorem g_dinS {neg : Bool} {z : Str} (h : H a = some (.dK kvs)) (q : Q (.bl (if neg then !(valV kvs (Sum.inr z)).isSome else (valV kvs (Sum.inr z)).isSome)) H) : rDIn neg (.str z) (.ref a) H Q := ⟨a, _, rfl, DGet.k (k := Sum.inr z) h, q⟩
theorem g_dinF {neg : Bool} {z : Str} {ob : Obj} (h : H a = some (.frz ob (.dK kvs))) (q : Q (.bl (if neg then !(valV kvs (Sum.inr z)).isSome else (valV kvs (Sum.inr z)).isSome)) H) : rDIn neg (.str z) (.ref a) H Q := ⟨a, _, rfl, .inl ⟨kvs, Sum.inr z, .inr ⟨ob, h⟩, rfl, rfl⟩, q⟩
def rDPut (v x y : V) (H3 : Hp) (N : Hp → Prop) : Prop := ∃ a H4, x = .ref a ∧ DPut H3 a y v H4 ∧ N H4
theorem g_dput {tv : TE} (q : tv σ H fun v H1 => td σ H1 fun x H2 => ty σ H2 fun y H3 => rDPut v x y H3 (D.nx σ)) : sDPut td ty tv D σ H := q
theorem g_dputS {z : Str} {N : Hp → Prop} (h : H a = some (.dK kvs)) (l : kvs.length < sizeLine) (q : N (upd H a (.dK (putK kvs (Sum.inr z) v)))) : rDPut v (.ref a) (.str z) H N := ⟨a, _, rfl, DPut.k (k := Sum.inr z) h l, q⟩
theorem g_dget1 (q : td σ H fun x H1 => ∃ a, x = .ref a ∧ IsD H1 a ∧ ty σ H1 fun y H2 => ∃ o, DGet H2 a y o ∧ Q (o.getD .non) H2) : tDGet1 td ty σ H Q := q
theorem g_dget2 (q : td σ H fun x H1 => ∃ a, x = .ref a ∧ IsD H1 a ∧ ty σ H1 fun y H2 => tx σ H2 fun z H3 => ∃ o, DGet H3 a y o ∧ Q (o.getD z) H3) : tDGet2 td ty tx σ H Q := q
theorem g_isD {P : Addr → Prop} (h : H a = some (.dK kvs)) (q : P a) : ∃ b, V.ref a = .ref b ∧ IsD H b ∧ P b := ⟨a, rfl, .inl ⟨kvs, .inl h⟩, q⟩
theorem g_dgo {z : Str} {P : Option V → Prop} (h : H a = some (.dK kvs)) (q : P (valV kvs (Sum.inr z))) : ∃ o, DGet H a (.str z) o ∧ P o := ⟨_, DGet.k (k := Sum.inr z) h, q⟩
end
/-! ## 9. comprehensions -/
section
variable {K : PySem.W.Frag} {σ : L2.St} {H H1 : Hp} {Q : VK} {D a : Addr} {tl td : TE} {tt : TT} {te : TE} {i0 : Nat}
/-- what a test, an expression answers, the heap as it was -/
def An (t : TT) (σ : L2.St) (H : Hp) (b : Bool) : Prop := ∀ R : Bool → Hp → Prop, R b H → t σ H R
def Vl (t : TE) (σ : L2.St) (H : Hp) (v : V) : Prop := ∀ R : VK, R v H → t σ H R
theorem an_yes {σ : L2.St} {H : Hp} : An tYes σ H true := fun _ q => q
theorem paired_snoc {α β : Type} {F : α → β → Prop} {a : α} {b : β} (r : F a b) : ∀ {l : List α} {m : List β}, Paired F l m → Paired F (l ++ [a]) (m ++ [b])
  | _, _, .nil => .cons r .nil
  | _, _, .cons h t => .cons h (paired_snoc r t)
theorem wipe_one (σ : L2.St) (i : Nat) : wipe σ [i] = σ.set i none := rfl
theorem wipe_set (σ : L2.St) (i : Nat) (x : Option V) : wipe ((wipe σ [i]).set i x) [i] = wipe σ [i] := by
  rw [wipe_one, wipe_one, List.set_set, List.set_set]
theorem take_snoc {α : Type} {l : List α} {i : Nat} {x : α} (h : l[i]? = some x) : l.take (i + 1) = l.take i ++ [x] := by
  rw [List.take_add_one, h]
  rfl
theorem take_mem {α : Type} {l : List α} {i : Nat} {x : α} (h : l[i]? = some x) : x ∈ l := List.mem_of_getElem? h
/-- element and test leave the heap alone -/
theorem lc_pure {J : It} {G : Hp → Prop} {items : List V} (w : Walk J items.length G (YAt items)) (hG : ∀ l, G (upd H1 D (.lst l))) (hz : items.length < sizeLine) (p : V → Bool) (f : V → V)
    (ht : ∀ x ∈ items, ∀ l, An tt ((wipe σ [i0]).set i0 (some x)) (upd H1 D (.lst l)) (p x)) (he : ∀ x ∈ items, p x = true → ∀ l, Vl te ((wipe σ [i0]).set i0 (some x)) (upd H1 D (.lst l)) (f x)) (q : Q (.ref D) (upd H1 D (.lst ((items.filter p).map f)))) :
    ∃ W : Nat → Nat → Hp → Prop, (∃ m, W 0 m (upd H1 D (.lst []))) ∧ ∀ i m H, W i m H →
      (J.stop i H ∧ Q (.ref D) H) ∨ (J.go i H ∧ ∃ Nx : Hp → Prop, (∀ H', Nx H' → ∃ m', m' < m ∧ W (i + 1) m' H') ∧ ∀ x H', J.yld i H x H' → gName i0 x (wipe σ [i0]) H' fun σ2 H2 => wipe σ2 [i0] = wipe σ [i0] ∧ tt σ2 H2 fun b H3 =>
        if b = true then te σ2 H3 fun y H4 => ∃ acc, H4 D = some (.lst acc) ∧ acc.length < sizeLine ∧ Nx (upd H4 D (.lst (acc ++ [y]))) else Nx H3) := by
  refine lc_it (Qd := fun H => Q (.ref D) H) w (fun i H => H = upd H1 D (.lst (((items.take i).filter p).map f))) rfl (fun i H _ e => by rw [e]; exact hG _) (fun i x H H' hi e y => ?_) (fun H e => by rw [e, List.take_length]; exact q)
  obtain ⟨rfl, hx⟩ := y
  subst e
  have hm := take_mem hx
  show wipe ((wipe σ [i0]).set i0 (some x)) [i0] = wipe σ [i0] ∧ _
  refine ⟨wipe_set σ i0 _, ht x hm _ _ ?_⟩
  have len : (((items.take i).filter p).map f).length < sizeLine := by
    rw [List.length_map]
    have := List.length_filter_le p (items.take i)
    have := List.length_take_le i items
    omega
  cases hp : p x with
  | false =>
    refine iteF ?_
    rw [take_snoc hx, List.filter_append, List.filter_cons, if_neg (by rw [hp]; exact Bool.false_ne_true), List.filter_nil, List.append_nil]
  | true =>
    refine iteT (he x hm hp _ _ ?_)
    refine ⟨_, upd_same, len, ?_⟩
    rw [upd_upd, take_snoc hx, List.filter_append, List.filter_cons, if_pos hp, List.filter_nil, List.map_append]
    all_goals rfl
/-- each element a new tuple -/
theorem lc_tups {J : It} {G : Hp → Prop} {items : List V} (w : Walk J items.length G (YAt items)) (hG : ∀ H', (∀ b o, H1 b = some o → H' b = some o) → G H') (hD : H1 D = none) (hz : items.length < sizeLine) (p : V → Bool) (c : V → List V)
    (ht : ∀ x ∈ items, ∀ H', (∀ b o, H1 b = some o → H' b = some o) → An tt ((wipe σ [i0]).set i0 (some x)) H' (p x))
    (he : ∀ x ∈ items, p x = true → ∀ H', (∀ b o, H1 b = some o → H' b = some o) → ∀ R : VK, (∀ t, H' t = none → R (.ref t) (upd H' t (.tup (c x)))) → te ((wipe σ [i0]).set i0 (some x)) H' R)
    (q : ∀ (H' : Hp) (ps : List Addr), (∀ b o, H1 b = some o → H' b = some o) → H' D = some (.lst (ps.map V.ref)) → Paired (fun t x => H1 t = none ∧ t ≠ D ∧ H' t = some (.tup (c x))) ps (items.filter p) → Q (.ref D) H') :
    ∃ W : Nat → Nat → Hp → Prop, (∃ m, W 0 m (upd H1 D (.lst []))) ∧ ∀ i m H, W i m H →
      (J.stop i H ∧ Q (.ref D) H) ∨ (J.go i H ∧ ∃ Nx : Hp → Prop, (∀ H', Nx H' → ∃ m', m' < m ∧ W (i + 1) m' H') ∧ ∀ x H', J.yld i H x H' → gName i0 x (wipe σ [i0]) H' fun σ2 H2 => wipe σ2 [i0] = wipe σ [i0] ∧ tt σ2 H2 fun b H3 =>
        if b = true then te σ2 H3 fun y H4 => ∃ acc, H4 D = some (.lst acc) ∧ acc.length < sizeLine ∧ Nx (upd H4 D (.lst (acc ++ [y]))) else Nx H3) := by
  refine lc_it (Qd := fun H => Q (.ref D) H) w (fun i H => ∃ ps : List Addr, (∀ b o, H1 b = some o → H b = some o) ∧ H D = some (.lst (ps.map V.ref)) ∧ Paired (fun t x => H1 t = none ∧ t ≠ D ∧ H t = some (.tup (c x))) ps ((items.take i).filter p))
    ⟨[], Kp.to_same (Kp.new Kp.refl hD), upd_same, .nil⟩ (fun i H _ ⟨_, e, _⟩ => hG H e) (fun i x H H' hi hh y => ?_) (fun H ⟨ps, e1, e2, e3⟩ => q H ps e1 e2 (by rw [List.take_length] at e3; exact e3))
  obtain ⟨ps, s1, hDl, hp2⟩ := hh
  obtain ⟨rfl, hx⟩ := y
  have hm := take_mem hx
  show wipe ((wipe σ [i0]).set i0 (some x)) [i0] = wipe σ [i0] ∧ _
  refine ⟨wipe_set σ i0 _, ht x hm _ s1 _ ?_⟩
  cases hp : p x with
  | false =>
    refine iteF ⟨ps, s1, hDl, ?_⟩
    rw [take_snoc hx, List.filter_append, List.filter_cons, if_neg (by rw [hp]; exact Bool.false_ne_true), List.filter_nil, List.append_nil]
    exact hp2
  | true =>
    refine iteT (he x hm hp _ s1 _ fun t nt => ?_)
    have nDt : D ≠ t := ne_of_none hDl nt
    have nt1 : H1 t = none := by
      cases e : H1 t with
      | none => rfl
      | some o => rw [s1 t o e] at nt; cases nt
    have len : (ps.map V.ref).length < sizeLine := by
      rw [List.length_map, Paired.length hp2]
      have := List.length_filter_le p (items.take i)
      have := List.length_take_le i items
      omega
    refine ⟨_, (upd_ne nDt).trans hDl, len, ps ++ [t], ?_, ?_, ?_⟩
    · intro b o e
      rw [upd_ne (ne_of_none e hD), upd_ne (ne_of_none e nt1)]
      exact s1 b o e
    · rw [upd_same, List.map_append]
      rfl
    · rw [take_snoc hx, List.filter_append, List.filter_cons, if_pos hp, List.filter_nil]
      refine paired_snoc ⟨nt1, nDt.symm, by rw [upd_ne nDt.symm, upd_same]⟩ (Paired.mapP hp2 fun u z ⟨h1, h2, h3⟩ => ⟨h1, h2, ?_⟩)
      rw [upd_ne h2, upd_ne (ne_of_none h3 nt)]
      exact h3
/-- what a comprehension asks behind its iterable -/
def LcRun (J : It) (g : TG) (tt : TT) (te : TE) (vs : List Nat) (σ : L2.St) (H1 : Hp) (D : Addr) (Q : VK) : Prop := ∃ W : Nat → Nat → Hp → Prop, (∃ m, W 0 m (upd H1 D (.lst []))) ∧ ∀ i m H, W i m H →
  (J.stop i H ∧ Q (.ref D) H) ∨ (J.go i H ∧ ∃ Nx : Hp → Prop, (∀ H', Nx H' → ∃ m', m' < m ∧ W (i + 1) m' H') ∧ ∀ x H', J.yld i H x H' → g x (wipe σ vs) H' fun σ2 H2 => wipe σ2 vs = wipe σ vs ∧ tt σ2 H2 fun b H3 =>
    if b = true then te σ2 H3 fun y H4 => ∃ acc, H4 D = some (.lst acc) ∧ acc.length < sizeLine ∧ Nx (upd H4 D (.lst (acc ++ [y]))) else Nx H3)
theorem g_lcl {g : TG} {vs : List Nat} (q : tl σ H fun x H1 => ∃ a, x = .ref a ∧ (∃ xs, SqL K H1 a xs) ∧ ∀ D, H1 D = none → LcRun (Itl K a) g tt te vs σ H1 D Q) : tLc (iList K tl) g tt te vs σ H Q := q
theorem r_lclP {xs : List V} (h : SqL K H1 a xs) (hz : xs.length < sizeLine) (p : V → Bool) (f : V → V) (ht : ∀ x ∈ xs, ∀ D l, H1 D = none → An tt ((wipe σ [i0]).set i0 (some x)) (upd H1 D (.lst l)) (p x))
    (he : ∀ x ∈ xs, p x = true → ∀ D l, H1 D = none → Vl te ((wipe σ [i0]).set i0 (some x)) (upd H1 D (.lst l)) (f x)) (q : ∀ D, H1 D = none → Q (.ref D) (upd H1 D (.lst ((xs.filter p).map f)))) :
    ∃ b, V.ref a = .ref b ∧ (∃ xs, SqL K H1 b xs) ∧ ∀ D, H1 D = none → LcRun (Itl K b) (gName i0) tt te [i0] σ H1 D Q :=
  ⟨a, rfl, ⟨xs, h⟩, fun D hD => lc_pure (walk_list (xs := xs)) (fun l => Kp.seq (M := []) (Kp.new Kp.refl hD) (by simp) h) hz p f (fun x hx l => ht x hx D l hD) (fun x hx hp l => he x hx hp D l hD) (q D hD)⟩
theorem r_lclT {xs : List V} (h : SqL K H1 a xs) (hz : xs.length < sizeLine) (p : V → Bool) (c : V → List V) (ht : ∀ x ∈ xs, ∀ H', Same H1 H' → An tt ((wipe σ [i0]).set i0 (some x)) H' (p x))
    (he : ∀ x ∈ xs, p x = true → ∀ H', Same H1 H' → ∀ R : VK, (∀ t, H' t = none → R (.ref t) (upd H' t (.tup (c x)))) → te ((wipe σ [i0]).set i0 (some x)) H' R)
    (q : ∀ (D : Addr) (H' : Hp) (ps : List Addr), H1 D = none → Same H1 H' → H' D = some (.lst (ps.map V.ref)) → Paired (fun t x => H1 t = none ∧ t ≠ D ∧ H' t = some (.tup (c x))) ps (xs.filter p) → Q (.ref D) H') :
    ∃ b, V.ref a = .ref b ∧ (∃ xs, SqL K H1 b xs) ∧ ∀ D, H1 D = none → LcRun (Itl K b) (gName i0) tt te [i0] σ H1 D Q :=
  ⟨a, rfl, ⟨xs, h⟩, fun D hD => lc_tups (walk_list (xs := xs)) (fun H' e => Kp.seq (M := []) (Kp.same e) (by simp) h) hD hz p c ht he fun H' ps e1 e2 e3 => q D H' ps hD e1 e2 e3⟩
/-- over a range -/
theorem g_lcr {g : TG} {vs : List Nat} {ta : TA} (q : ta σ H fun ws H1 => ∃ j : Int, ws = [.int j] ∧ -(2 ^ 62) ≤ j ∧ j < 2 ^ 62 ∧ ∀ D, H1 D = none → LcRun (Itr 0 j.toNat) g tt te vs σ H1 D Q) : tLc (iRng1 ta) g tt te vs σ H Q := q
def rngV (n : Nat) : List V := (List.range n).map fun i : Nat => V.int (i : Int)
theorem rngV_at {n i : Nat} (h : i < n) : (rngV n)[i]? = some (.int (i : Int)) := by
  unfold rngV
  rw [List.getElem?_map, List.getElem?_range h]
  rfl
theorem rngV_len (n : Nat) : (rngV n).length = n := by
  unfold rngV
  rw [List.length_map, List.length_range]
theorem rngV_mem {n : Nat} {x : V} (h : x ∈ rngV n) : ∃ i : Nat, i < n ∧ x = .int (i : Int) := by
  obtain ⟨i, hi, rfl⟩ := List.mem_map.mp h
  exact ⟨i, List.mem_range.mp hi, rfl⟩
theorem walk_rng (n : Nat) : Walk (Itr 0 n) (rngV n).length (fun _ => True) (YAt (rngV n)) := by
  rw [rngV_len]
  refine (walk_range (lo := 0) (n := n)).mono (fun _ h => h) fun i H x H' hi _ y => ?_
  obtain ⟨e1, e2⟩ := y
  refine ⟨e1, ?_⟩
  rw [rngV_at hi, e2]
  show some (V.int (i : Int)) = some (V.int (0 + (i : Int)))
  rw [Int.zero_add]
theorem r_lcrP {j : Int} (h0 : 0 ≤ j) (hz : j < 16777216) (p : V → Bool) (f : V → V) (ht : ∀ x ∈ rngV j.toNat, ∀ D l, H1 D = none → An tt ((wipe σ [i0]).set i0 (some x)) (upd H1 D (.lst l)) (p x))
    (he : ∀ x ∈ rngV j.toNat, p x = true → ∀ D l, H1 D = none → Vl te ((wipe σ [i0]).set i0 (some x)) (upd H1 D (.lst l)) (f x)) (q : ∀ D, H1 D = none → Q (.ref D) (upd H1 D (.lst (((rngV j.toNat).filter p).map f)))) :
    ∃ k : Int, [V.int j] = [.int k] ∧ -(2 ^ 62) ≤ k ∧ k < 2 ^ 62 ∧ ∀ D, H1 D = none → LcRun (Itr 0 k.toNat) (gName i0) tt te [i0] σ H1 D Q :=
  ⟨j, rfl, by omega, by omega, fun D hD => lc_pure (walk_rng j.toNat) (fun _ => trivial) (by rw [rngV_len, sizeLine_eq]; omega) p f (fun x hx l => ht x hx D l hD) (fun x hx hp l => he x hx hp D l hD) (q D hD)⟩
theorem r_lcrT {j : Int} (h0 : 0 ≤ j) (hz : j < 16777216) (p : V → Bool) (c : V → List V) (ht : ∀ x ∈ rngV j.toNat, ∀ H', Same H1 H' → An tt ((wipe σ [i0]).set i0 (some x)) H' (p x))
    (he : ∀ x ∈ rngV j.toNat, p x = true → ∀ H', Same H1 H' → ∀ R : VK, (∀ t, H' t = none → R (.ref t) (upd H' t (.tup (c x)))) → te ((wipe σ [i0]).set i0 (some x)) H' R)
    (q : ∀ (D : Addr) (H' : Hp) (ps : List Addr), H1 D = none → Same H1 H' → H' D = some (.lst (ps.map V.ref)) → Paired (fun t x => H1 t = none ∧ t ≠ D ∧ H' t = some (.tup (c x))) ps ((rngV j.toNat).filter p) → Q (.ref D) H') :
    ∃ k : Int, [V.int j] = [.int k] ∧ -(2 ^ 62) ≤ k ∧ k < 2 ^ 62 ∧ ∀ D, H1 D = none → LcRun (Itr 0 k.toNat) (gName i0) tt te [i0] σ H1 D Q :=
  ⟨j, rfl, by omega, by omega, fun D hD => lc_tups (walk_rng j.toNat) (fun _ _ => trivial) hD (by rw [rngV_len, sizeLine_eq]; omega) p c ht he fun H' ps e1 e2 e3 => q D H' ps hD e1 e2 e3⟩
/-- over a dict's names, the dict locked -/
def keysV (kvs : List (Key × V)) : List V := kvs.map fun e => kV e.1
theorem walk_keysV {d : Addr} {o : Obj} (kvs : List (Key × V)) : Walk (Itk d o kvs) (keysV kvs).length (fun H => H d = some (.frz o (.dK kvs))) (YAt (keysV kvs)) := by
  unfold keysV
  rw [List.length_map]
  refine (walk_keys (kvs := kvs)).mono (fun _ h => h) fun i H x H' hi _ y => ?_
  obtain ⟨e1, k, v, e2, e3⟩ := y
  refine ⟨e1, ?_⟩
  rw [List.getElem?_map, e2, e3]
  rfl
theorem g_lock {t : TE} {d : Addr} {kvs : List (Key × V)} (h : H d = some (.dK kvs)) (q : ∀ od, t σ (upd H d (.frz od (.dK kvs))) fun v H' => H' d = some (.frz od (.dK kvs)) ∧ Q v (upd H' d (.dK kvs))) : tLockE t σ H Q := ⟨d, _, h, trivial, q⟩
theorem g_lcKT {d : Addr} {kvs : List (Key × V)} (h : H d = some (.dK kvs)) (hd : ∀ (H' : Hp) (R : VK), R (.ref d) H' → td σ H' R) (hz : kvs.length < sizeLine) (p : V → Bool) (c : V → List V)
    (ht : ∀ x ∈ keysV kvs, ∀ od H', H' d = some (.frz od (.dK kvs)) → Kp [d] H H' → An tt ((wipe σ [i0]).set i0 (some x)) H' (p x))
    (he : ∀ x ∈ keysV kvs, p x = true → ∀ od H', H' d = some (.frz od (.dK kvs)) → Kp [d] H H' → ∀ R : VK, (∀ t, H' t = none → R (.ref t) (upd H' t (.tup (c x)))) → te ((wipe σ [i0]).set i0 (some x)) H' R)
    (q : ∀ (D : Addr) (H' : Hp) (ps : List Addr), H D = none → Same H H' → H' D = some (.lst (ps.map V.ref)) → Paired (fun t x => H t = none ∧ t ≠ D ∧ H' t = some (.tup (c x))) ps ((keysV kvs).filter p) → Q (.ref D) H') : tLockE (tLc (iKeys td) (gName i0) tt te [i0]) σ H Q := by
  refine g_lock h fun od => ?_
  refine hd _ _ ⟨d, od, rfl, .inl ⟨kvs, upd_same, fun D hD => ?_⟩⟩
  have nDd : D ≠ d := fun e => by rw [e, upd_same] at hD; cases hD
  have hD0 : H D = none := by rw [upd_ne nDd] at hD; exact hD
  have kp : ∀ H', (∀ b o, upd H d (.frz od (.dK kvs)) b = some o → H' b = some o) → Kp [d] H H' := fun H' e b o z m => e b o (by rw [upd_ne (by simpa using m)]; exact z)
  refine lc_tups (Q := fun v H' => H' d = some (.frz od (.dK kvs)) ∧ Q v (upd H' d (.dK kvs))) (walk_keysV kvs) (fun H' e => e _ _ upd_same) hD (by unfold keysV; rw [List.length_map]; exact hz) p c (fun x hx H' e => ht x hx od H' (e _ _ upd_same) (kp H' e)) (fun x hx hp H' e => he x hx hp od H' (e _ _ upd_same) (kp H' e)) fun H' ps e1 e2 e3 => ⟨e1 _ _ upd_same, ?_⟩
  refine q D _ ps hD0 (fun b o z => ?_) (by rw [upd_ne nDd]; exact e2) (Paired.mapP e3 fun t x ⟨h1, h2, h3⟩ => ?_)
  · by_cases hb : b = d
    · rw [hb] at z ⊢
      rw [upd_same, ← h, z]
    · rw [upd_ne hb]
      exact e1 b o (by rw [upd_ne hb]; exact z)
  · have ntd : t ≠ d := fun e => by rw [e, upd_same] at h1; cases h1
    refine ⟨by rw [upd_ne ntd] at h1; exact h1, h2, by rw [upd_ne ntd]; exact h3⟩
end
/-! ## 10. slices, flat data, order of texts -/
section
variable {K : PySem.W.Frag} {σ : L2.St} {H : Hp} {Q : VK} {a : Addr} {te : TE}
theorem g_sl {r : V → Option Int → Option Int → Hp → VK → Prop} {tl th : TO} (q : te σ H fun x H1 => tl σ H1 fun l H2 => th σ H2 fun u H3 => r x l u H3 Q) : tSl r te tl th σ H Q := q
theorem g_nopart {P : Option Int → Hp → Prop} (q : P none H) : tNoPart σ H P := q
theorem g_part {P : Option Int → Hp → Prop} (q : te σ H fun x H1 => ∃ i, x = .int i ∧ P (some i) H1) : tPart te σ H P := q
theorem g_pint {i : Int} {P : Option Int → Hp → Prop} (q : P (some i) H) : ∃ j, V.int i = .int j ∧ P (some j) H := ⟨i, rfl, q⟩
theorem g_slL {xs : List V} {lo hi : Option Int} (h : SqL K H a xs) (q : ∀ p, H p = none → Q (.ref p) (upd H p (.lst (cutV xs lo hi)))) : rSlL K (.ref a) lo hi H Q := ⟨a, xs, rfl, h, q⟩
/-- flat data -/
def strOkS (l : List Str) : Bool := l.all PyData.strOk
theorem dpAll_str : ∀ l : List Str, DpAll K H (l.map V.str) (l.map PyData.str)
  | [] => .nil
  | x :: r => .cons (.str x) (dpAll_str r)
theorem dpAll_int : ∀ l : List Int, DpAll K H (l.map V.int) (l.map PyData.int)
  | [] => .nil
  | x :: r => .cons (.int x) (dpAll_int r)
theorem eqvAll_str : ∀ l m : List Str, PyData.eqvAll (l.map .str) (m.map .str) = decide (l = m)
  | [], [] => rfl
  | [], _ :: _ => rfl
  | _ :: _, [] => rfl
  | x :: l, y :: m => by
    show ((x == y) && PyData.eqvAll (l.map .str) (m.map .str)) = _
    rw [eqvAll_str l m, Bool.beq_eq_decide_eq, ← Bool.decide_and]
    exact decide_eq_decide.mpr ⟨fun ⟨h1, h2⟩ => by rw [h1, h2], fun h => List.cons.inj h⟩
theorem eqvAll_int : ∀ l m : List Int, PyData.eqvAll (l.map .int) (m.map .int) = decide (l = m)
  | [], [] => rfl
  | [], _ :: _ => rfl
  | _ :: _, [] => rfl
  | x :: l, y :: m => by
    show ((x == y) && PyData.eqvAll (l.map .int) (m.map .int)) = _
    rw [eqvAll_int l m, Bool.beq_eq_decide_eq, ← Bool.decide_and]
    exact decide_eq_decide.mpr ⟨fun ⟨h1, h2⟩ => by rw [h1, h2], fun h => List.cons.inj h⟩
theorem lay_str : ∀ l : List Str, strOkS l = true → PyData.canLayAll0 (l.map .str) = true
  | [], _ => rfl
  | x :: r, h => by
    have h : (PyData.strOk x && strOkS r) = true := h
    obtain ⟨h1, h2⟩ := Bool.and_eq_true_iff.mp h
    show (PyData.strOk x && PyData.canLayAll0 (r.map .str)) = true
    rw [h1, lay_str r h2]
    rfl
theorem lay_int : ∀ l : List Int, PyData.canLayAll0 (l.map .int) = true
  | [] => rfl
  | _ :: r => by
    show (true && PyData.canLayAll0 (r.map .int)) = true
    rw [lay_int r]
    rfl
theorem deep_str : ∀ l : List Str, PyData.depthAll (l.map .str) = 0
  | [] => rfl
  | _ :: r => by
    show max 0 (PyData.depthAll (r.map .str)) = 0
    rw [deep_str r]
    rfl
theorem deep_int : ∀ l : List Int, PyData.depthAll (l.map .int) = 0
  | [] => rfl
  | _ :: r => by
    show max 0 (PyData.depthAll (r.map .int)) = 0
    rw [deep_int r]
    rfl
theorem shaped_tstr {l : List Str} (h : strOkS l = true) : SeqAt.shaped (.tuple (l.map .str)) = true := by
  show (PyData.canLayAll0 (l.map .str) && decide (PyData.depthAll (l.map .str) + 1 ≤ 64)) = true
  rw [lay_str l h, deep_str]
  rfl
theorem shaped_lstr {l : List Str} (h : strOkS l = true) : SeqAt.shaped (.list (l.map .str)) = true := by
  show (PyData.canLayAll0 (l.map .str) && decide (PyData.depthAll (l.map .str) + 1 ≤ 64)) = true
  rw [lay_str l h, deep_str]
  rfl
theorem shaped_lint (l : List Int) : SeqAt.shaped (.list (l.map .int)) = true := by
  show (PyData.canLayAll0 (l.map .int) && decide (PyData.depthAll (l.map .int) + 1 ≤ 64)) = true
  rw [lay_int l, deep_int]
  rfl
/-- == of tuples of texts -/
theorem g_neTS {b : Addr} {l m : List Str} (h1 : SqT K H a (l.map V.str)) (h2 : SqT K H b (m.map V.str)) (s1 : strOkS l = true) (s2 : strOkS m = true) (q : Q (.bl (!decide (l = m))) H) : rNeD K (.ref a) (.ref b) H Q :=
  g_neD (.tup h1 (dpAll_str l)) (.tup h2 (dpAll_str m)) (shaped_tstr s1) (shaped_tstr s2) (by rw [show PyData.eqv (.tuple (l.map .str)) (.tuple (m.map .str)) = decide (l = m) from eqvAll_str l m]; exact q)
theorem g_eqTS {b : Addr} {l m : List Str} (h1 : SqT K H a (l.map V.str)) (h2 : SqT K H b (m.map V.str)) (s1 : strOkS l = true) (s2 : strOkS m = true) (q : Q (.bl (decide (l = m))) H) : rEqD K (.ref a) (.ref b) H Q :=
  g_eqD (.tup h1 (dpAll_str l)) (.tup h2 (dpAll_str m)) (shaped_tstr s1) (shaped_tstr s2) (by rw [show PyData.eqv (.tuple (l.map .str)) (.tuple (m.map .str)) = decide (l = m) from eqvAll_str l m]; exact q)
/-- == of lists of ints -/
theorem g_eqLI {b : Addr} {l m : List Int} (h1 : SqL K H a (l.map V.int)) (h2 : SqL K H b (m.map V.int)) (q : Q (.bl (decide (l = m))) H) : rEqD K (.ref a) (.ref b) H Q :=
  g_eqD (.lst h1 (dpAll_int l)) (.lst h2 (dpAll_int m)) (shaped_lint l) (shaped_lint m) (by rw [show PyData.eqv (.list (l.map .int)) (.list (m.map .int)) = decide (l = m) from eqvAll_int l m]; exact q)
theorem g_neLI {b : Addr} {l m : List Int} (h1 : SqL K H a (l.map V.int)) (h2 : SqL K H b (m.map V.int)) (q : Q (.bl (!decide (l = m))) H) : rNeD K (.ref a) (.ref b) H Q :=
  g_neD (.lst h1 (dpAll_int l)) (.lst h2 (dpAll_int m)) (shaped_lint l) (shaped_lint m) (by rw [show PyData.eqv (.list (l.map .int)) (.list (m.map .int)) = decide (l = m) from eqvAll_int l m]; exact q)
/-- x stands at or before y -/
def leS (x y : Str) : Prop := ¬ y.cps.toList < x.cps.toList
theorem leS_trans {x y z : Str} (a : leS x y) (b : leS y z) : leS x z := by
  unfold leS at *
  rw [List.not_lt] at *
  exact List.le_trans a b
theorem leS_antisymm {x y : Str} (a : leS x y) (b : leS y x) : x = y := by
  unfold leS at *
  rw [List.not_lt] at *
  have e := List.le_antisymm a b
  obtain ⟨⟨p⟩⟩ := x
  obtain ⟨⟨q⟩⟩ := y
  have e : p = q := e
  rw [e]
theorem rising_pw : ∀ (r : List Str) (x : Str), risingS x r = true → (x :: r).Pairwise leS
  | [], x, _ => List.pairwise_singleton ..
  | y :: r, x, h => by
    have h : (!ltCps y.cps.toList x.cps.toList && risingS y r) = true := h
    obtain ⟨h1, h2⟩ := Bool.and_eq_true_iff.mp h
    have ih := rising_pw r y h2
    have xy : leS x y := by
      rw [ltCps_eq] at h1
      unfold leS
      simpa using h1
    refine List.pairwise_cons.mpr ⟨fun z hz => ?_, ih⟩
    rcases List.mem_cons.mp hz with e | e
    · rw [e]; exact xy
    · exact leS_trans xy ((List.pairwise_cons.mp ih).1 z e)
theorem sorted_pw {l : List Str} (h : sortedS l = true) : l.Pairwise leS := by
  cases l with
  | nil => exact .nil
  | cons x r => exact rising_pw r x h
theorem pw_unique : ∀ {l m : List Str}, l.Pairwise leS → m.Pairwise leS → l.Perm m → l = m
  | [], m, _, _, p => (List.Perm.nil_eq p)
  | x :: r, m, hl, hm, p => by
    cases m with
    | nil => exact absurd p.length_eq (by simp)
    | cons y t =>
      obtain ⟨l1, l2⟩ := List.pairwise_cons.mp hl
      obtain ⟨m1, m2⟩ := List.pairwise_cons.mp hm
      have e : x = y := by
        rcases List.mem_cons.mp (p.subset List.mem_cons_self) with e | e
        · exact e
        · rcases List.mem_cons.mp (p.symm.subset List.mem_cons_self) with e2 | e2
          · exact e2.symm
          · exact leS_antisymm (l1 y e2) (m1 x e)
      subst e
      rw [pw_unique l2 m2 ((List.perm_cons x).mp p)]
theorem sorted_unique {l m : List Str} (hl : sortedS l = true) (hm : sortedS m = true) (p : l.Perm m) : l = m := pw_unique (sorted_pw hl) (sorted_pw hm) p
theorem sorted_filter {l : List Str} (h : sortedS l = true) (p : Str → Bool) : (l.filter p).Pairwise leS := (sorted_pw h).filter p
end
/-! ## 11. written dicts -/
section
variable {σ : L2.St} {H : Hp} {Q : VK} {tk tv : TE} {r : List (TE × TE)} {R : List (V × V) → Hp → Prop}
theorem g_disp (q : ∀ p, H p = none → tPairs r σ (upd H p (.dK [])) fun ps H2 => H2 p = some (.dK []) ∧ ∃ kvs : List (Key × V), ps = kvs.map (fun kv => (kV kv.1, kv.2)) ∧ kvs.length ≤ 15 ∧ Q (.ref p) (upd H2 p (.dK (mergeK [] kvs)))) : tDisp r σ H Q := q
theorem g_pcons (q : tk σ H fun x H1 => tv σ H1 fun y H2 => tPairs r σ H2 fun ps H3 => R ((x, y) :: ps) H3) : tPairs ((tk, tv) :: r) σ H R := q
theorem g_pnil (q : R [] H) : tPairs [] σ H R := q
theorem g_par {D : Ends} {i j : Nat} {ta : TA} (q : ta σ H fun vs H1 => ∃ v w, vs = [v, w] ∧ D.nx ((σ.set i (some v)).set j (some w)) H1) : tPar i j ta D σ H := q
theorem g_two {x y : V} {F : V → V → Prop} (q : F x y) : ∃ v w, [x, y] = [v, w] ∧ F v w := ⟨x, y, rfl, q⟩
theorem g_dnew (q : ∀ p, H p = none → Q (.ref p) (upd H p (.dK []))) : tDNewK σ H Q := q
end
/-! ## 12. lists by names whose values stand at addresses -/
section
variable {β : Type}
def rf (x : Addr × β) : V := .ref x.1
def pr (L : List (Str × (Addr × β))) : List (Str × β) := L.map fun e => (e.1, e.2.2)
theorem aGet_pr (L : List (Str × (Addr × β))) (k : Str) : aGet (pr L) k = (aGet L k).map (·.2) := by
  unfold aGet pr
  rw [List.find?_map, Option.map_map, Option.map_map]
  rfl
theorem pr_drop (L : List (Str × (Addr × β))) (k : Str) : pr (aDrop L k) = aDrop (pr L) k := by
  unfold aDrop pr
  rw [List.filter_map]
  rfl
theorem pr_keys (L : List (Str × (Addr × β))) : (pr L).map (·.1) = L.map (·.1) := by
  unfold pr
  rw [List.map_map]
  rfl
theorem pr_len (L : List (Str × (Addr × β))) : (pr L).length = L.length := List.length_map ..
theorem pr_app (L M : List (Str × (Addr × β))) : pr (L ++ M) = pr L ++ pr M := List.map_append
theorem pr_put (L : List (Str × (Addr × β))) (k : Str) (a : Addr) (b : β) : pr (aPut L k (a, b)) = aPut (pr L) k b := by
  have e1 : ((pr L).any fun e => decide (e.1 = k)) = L.any fun e => decide (e.1 = k) := by
    unfold pr
    rw [List.any_map]
    rfl
  unfold aPut
  rw [e1]
  split
  · unfold pr
    rw [List.map_map, List.map_map]
    refine List.map_congr_left fun e _ => ?_
    show ((if e.1 = k then (e.1, (a, b)) else e).1, (if e.1 = k then (e.1, (a, b)) else e).2.2) = if e.1 = k then (e.1, b) else (e.1, e.2.2)
    split <;> rfl
  · rw [pr_app]
    rfl
theorem pr_mem {L : List (Str × (Addr × β))} {e : Str × (Addr × β)} (h : e ∈ L) : (e.1, e.2.2) ∈ pr L := List.mem_map.mpr ⟨e, h, rfl⟩
theorem pr_get {L : List (Str × (Addr × β))} {k : Str} {b : β} (h : aGet (pr L) k = some b) : ∃ a, aGet L k = some (a, b) := by
  rw [aGet_pr] at h
  obtain ⟨⟨a, c⟩, h1, h2⟩ := Option.map_eq_some_iff.mp h
  exact ⟨a, by rw [h1, show c = b from h2]⟩
theorem pr_none {L : List (Str × (Addr × β))} {k : Str} (h : aGet (pr L) k = none) : aGet L k = none := by
  rw [aGet_pr] at h
  exact Option.map_eq_none_iff.mp h
theorem enc_get {α : Type} {g : α → V} {L : List (Str × α)} {k : Str} {v : α} (h : aGet L k = some v) : valV (enc g L) (Sum.inr k) = some (g v) := by rw [valV_enc, h]; rfl
theorem enc_none {α : Type} {g : α → V} {L : List (Str × α)} {k : Str} (h : aGet L k = none) : valV (enc g L) (Sum.inr k) = none := by rw [valV_enc, h]; rfl
theorem nd_sub_len {α : Type} [DecidableEq α] : ∀ {l m : List α}, l.Nodup → (∀ x ∈ l, x ∈ m) → l.length ≤ m.length
  | [], _, _, _ => Nat.zero_le _
  | x :: r, m, nd, h => by
    obtain ⟨n1, n2⟩ := List.nodup_cons.mp nd
    have hx := h x List.mem_cons_self
    have := nd_sub_len n2 (m := m.erase x) fun y hy => (List.mem_erase_of_ne fun e => n1 (by rw [← e]; exact hy)).mpr (h y (List.mem_cons_of_mem _ hy))
    have e := List.length_erase_of_mem hx
    have : 0 < m.length := List.length_pos_of_mem hx
    simp only [List.length_cons]
    omega
theorem nd_three {α : Type} {L : List (Str × α)} {a b c : Str} (nd : (L.map (·.1)).Nodup) (h : ∀ e ∈ L, e.1 ∈ [a, b, c]) : L.length ≤ 3 := by
  have := nd_sub_len nd (m := [a, b, c]) fun x hx => by
    obtain ⟨e, he, rfl⟩ := List.mem_map.mp hx
    exact h e he
  rw [List.length_map] at this
  exact this
end
section
variable {H : Hp} {Q : VK} {v : V} {a : Addr} {kvs : List (Key × V)} {z : Str}
theorem g_dinY (h : H a = some (.dK kvs)) (e : valV kvs (Sum.inr z) = some v) (q : Q (.bl true) H) : rDIn false (.str z) (.ref a) H Q := g_dinS h (by rw [e]; exact q)
theorem g_dinN (h : H a = some (.dK kvs)) (e : valV kvs (Sum.inr z) = none) (q : Q (.bl false) H) : rDIn false (.str z) (.ref a) H Q := g_dinS h (by rw [e]; exact q)
theorem g_dniY (h : H a = some (.dK kvs)) (e : valV kvs (Sum.inr z) = some v) (q : Q (.bl false) H) : rDIn true (.str z) (.ref a) H Q := g_dinS h (by rw [e]; exact q)
theorem g_dniN (h : H a = some (.dK kvs)) (e : valV kvs (Sum.inr z) = none) (q : Q (.bl true) H) : rDIn true (.str z) (.ref a) H Q := g_dinS h (by rw [e]; exact q)
end
theorem szl {n : Nat} (h : n ≤ 10000) : n ≤ sizeLine := by rw [sizeLine_eq]; omega
theorem szt {n : Nat} (h : n ≤ 10000) : n < sizeLine := by rw [sizeLine_eq]; omega
theorem enc_rf {β : Type} {L : List (Str × (Addr × β))} {k : Str} {a : Addr} {b : β} (h : aGet L k = some (a, b)) : valV (enc rf L) (Sum.inr k) = some (.ref a) := enc_get h
/-- what is not of a frame's kinds -/
theorem Kp.get {M : List Addr} {H H' : Hp} {a : Addr} {o : HO} (k : Kp M H H') (h : H a = some o) (n : ∀ b ∈ M, H b ≠ some o) : H' a = some o := k _ _ h fun m => n a m h
/-! ## 13. for -/
section
variable {K : PySem.W.Frag} {σ : L2.St} {H : Hp} {v x y : V} {ta tv te td tl ty : TE} {D : Ends} {g : TG} {tb : TS} {a : Addr} {i0 : Nat} {f : Str}
def ForRun (J : It) (g : TG) (tb : TS) (D : Ends) (σ : L2.St) (H : Hp) : Prop := ∃ W : Nat → Nat → L2.St → Hp → Prop, (∃ m, W 0 m σ H) ∧ ∀ i m σ H, W i m σ H →
  (J.stop i H ∧ D.nx σ H) ∨ (J.go i H ∧ ∃ N : L2.St → Hp → Prop, (∀ σ' H', N σ' H' → ∃ m', m' < m ∧ W (i + 1) m' σ' H') ∧ ∀ x H', J.yld i H x H' → g x σ H' fun σ2 H2 => tb { D with nx := N, ct := N, bk := D.nx } σ2 H2)
theorem g_forl (q : tl σ H fun x H1 => ∃ a, x = .ref a ∧ (∃ xs, SqL K H1 a xs) ∧ ForRun (Itl K a) g tb D σ H1) : tFor (iList K tl) g tb D σ H := q
theorem g_forr {ta : TA} (q : ta σ H fun ws H1 => ∃ j : Int, ws = [.int j] ∧ -(2 ^ 62) ≤ j ∧ j < 2 ^ 62 ∧ ForRun (Itr 0 j.toNat) g tb D σ H1) : tFor (iRng1 ta) g tb D σ H := q
theorem run_of {J : It} {items : List V} {G : Hp → Prop} (w : Walk J items.length G (YAt items)) (Pv : Nat → L2.St → Hp → Prop) (h0 : Pv 0 σ H) (hG : ∀ i σ H, Pv i σ H → G H)
    (hb : ∀ i x σ H, i < items.length → items[i]? = some x → Pv i σ H → tb { D with nx := Pv (i + 1), ct := Pv (i + 1), bk := D.nx } (σ.set i0 (some x)) H) (hq : ∀ σ H, Pv items.length σ H → D.nx σ H) : ForRun J (gName i0) tb D σ H :=
  for_it w Pv h0 (fun i σ H _ p => hG i σ H p) (fun i x σ H H' hi p y => by
    obtain ⟨rfl, hx⟩ := y
    exact hb i x σ H' hi hx p) hq
theorem r_forl {xs : List V} (h : SqL K H a xs) (Pv : Nat → L2.St → Hp → Prop) (h0 : Pv 0 σ H) (hG : ∀ i σ H, Pv i σ H → SqL K H a xs)
    (hb : ∀ i x σ H, i < xs.length → xs[i]? = some x → Pv i σ H → tb { D with nx := Pv (i + 1), ct := Pv (i + 1), bk := D.nx } (σ.set i0 (some x)) H) (hq : ∀ σ H, Pv xs.length σ H → D.nx σ H) :
    ∃ b, V.ref a = .ref b ∧ (∃ xs, SqL K H b xs) ∧ ForRun (Itl K b) (gName i0) tb D σ H := ⟨a, rfl, ⟨xs, h⟩, run_of walk_list Pv h0 hG hb hq⟩
theorem r_forr {j : Int} (z0 : 0 ≤ j) (z1 : j < 16777216) (Pv : Nat → L2.St → Hp → Prop) (h0 : Pv 0 σ H)
    (hb : ∀ (i : Nat) σ H, (i : Int) < j → Pv i σ H → tb { D with nx := Pv (i + 1), ct := Pv (i + 1), bk := D.nx } (σ.set i0 (some (.int i))) H) (hq : ∀ σ H, Pv j.toNat σ H → D.nx σ H) :
    ∃ k : Int, [V.int j] = [.int k] ∧ -(2 ^ 62) ≤ k ∧ k < 2 ^ 62 ∧ ForRun (Itr 0 k.toNat) (gName i0) tb D σ H :=
  ⟨j, rfl, by omega, by omega, run_of (walk_rng j.toNat) Pv h0 (fun _ _ _ _ => trivial) (fun i x σ H hi hx p => by
    rw [rngV_len] at hi
    rw [rngV_at hi] at hx
    cases hx
    exact hb i σ H (by omega) p) (by rw [rngV_len]; exact hq)⟩
/-- o.f += e -/
def rFldA (K : PySem.W.Frag) (f : Str) (x : V) (H1 : Hp) (k : Addr → Addr → V → Prop) : Prop := ∃ a C dx fs v, x = .ref a ∧ H1 a = some (.ins C dx fs) ∧ Cls K C ∧ NoAttr K C f ∧ fs.lookup f = some v ∧ k a C v
def rSFldA (f : Str) (z : V) (a C : Addr) (H3 : Hp) (N : Hp → Prop) : Prop := ∃ dx' fs', H3 a = some (.ins C dx' fs') ∧ fs'.length < 1000 ∧ N (upd H3 a (.ins C dx' (putF f z fs')))
theorem g_sfauk {rd : V → V → Hp → VK → Prop} (q : ta σ H fun x H1 => rFldA K f x H1 fun a C v => tv σ H1 fun y H2 => rd v y H2 fun z H3 => rSFldA f z a C H3 (D.nx σ)) : sFldAug K ta tv rd f D σ H := q
theorem g_fldA {a C dx : Addr} {fs : List (Str × V)} {k : Addr → Addr → V → Prop} (h : H a = some (.ins C dx fs)) (c : Cls K C) (n : NoAttr K C f) (l : fs.lookup f = some v) (q : k a C v) : rFldA K f (.ref a) H k := ⟨a, C, dx, fs, v, rfl, h, c, n, l, q⟩
theorem g_sfldA {a C dx : Addr} {fs fs' : List (Str × V)} {N : Hp → Prop} (h : H a = some (.ins C dx fs)) (l : fs.length < 1000) (e : putF f y fs = fs') (q : N (upd H a (.ins C dx fs'))) : rSFldA f y a C H N := by
  subst e
  exact ⟨dx, fs, h, l, q⟩
theorem g_addI {a b : Int} {Q : VK} (q : Q (.int (a + b)) H) : rAdd (.int a) (.int b) H Q := ⟨a, b, rfl, rfl, q⟩
theorem g_ddel (q : td σ H fun x H1 => ty σ H1 fun y H2 => ∃ a kvs k, x = .ref a ∧ H2 a = some (.dK kvs) ∧ y = kV k ∧ (valV kvs k).isSome = true ∧ D.nx σ (upd H2 a (.dK (dropK kvs k)))) : sDDel td ty D σ H := q
theorem g_del1 {kvs : List (Key × V)} {z : Str} {N : Hp → Prop} (h : H a = some (.dK kvs)) (e : (valV kvs (Sum.inr z)).isSome = true) (q : N (upd H a (.dK (dropK kvs (Sum.inr z))))) : ∃ b ws k, V.ref a = .ref b ∧ H b = some (.dK ws) ∧ V.str z = kV k ∧ (valV ws k).isSome = true ∧ N (upd H b (.dK (dropK ws k))) := ⟨a, kvs, .inr z, rfl, h, rfl, e, q⟩
end
theorem aGet_filter {α : Type} (p : Str → Bool) (k : Str) : ∀ L : List (Str × α), aGet (L.filter fun e => p e.1) k = if p k = true then aGet L k else none
  | [] => by cases p k <;> rfl
  | e :: r => by
    have ih := aGet_filter p k r
    rw [List.filter_cons]
    by_cases hk : e.1 = k
    · cases hp : p k with
      | true => rw [if_pos (by rw [hk]; exact hp), if_pos rfl]; simp [aGet, List.find?_cons, hk]
      | false => rw [if_neg (by rw [hk, hp]; exact Bool.false_ne_true), ih, hp]; rfl
    · have e2 : aGet (e :: r) k = aGet r k := by simp [aGet, List.find?_cons, hk]
      rw [e2, ← ih]
      split
      · simp [aGet, List.find?_cons, hk]
      · rfl
theorem pr_filter {β : Type} (p : Str × β → Bool) (L : List (Str × (Addr × β))) : pr (L.filter fun e => p (e.1, e.2.2)) = (pr L).filter p := by
  unfold pr
  rw [List.filter_map]
  rfl
theorem aGet_key {α : Type} {L : List (Str × α)} {k : Str} (h : k ∈ L.map (·.1)) : ∃ v, aGet L k = some v := by
  cases e : aGet L k with
  | some v => exact ⟨v, rfl⟩
  | none =>
    obtain ⟨u, hu, rfl⟩ := List.mem_map.mp h
    exact absurd hu (aGet_none.mp e u.2)
theorem ins_ne {C C' dx dy : Addr} {fs fs' : List (Str × V)} (h : fs.length ≠ fs'.length) : HO.ins C dx fs ≠ HO.ins C' dy fs' := fun z => by
  injection z with _ _ z
  exact h (congrArg List.length z)
theorem not_mem_take {α : Type} {l : List α} {i : Nat} {x : α} (nd : l.Nodup) (h : l[i]? = some x) : x ∉ l.take i := fun m => by
  have e := take_snoc h
  have := nd.sublist (List.take_sublist (i + 1) l)
  rw [e] at this
  exact (List.nodup_append.mp this).2.2 x m x (by simp) rfl
theorem drop_take {α : Type} {L : List (Str × α)} {EE : List Str} {i : Nat} {k : Str} (h : EE[i]? = some k) : aDrop (L.filter fun e => !decide (e.1 ∈ EE.take i)) k = L.filter fun e => !decide (e.1 ∈ EE.take (i + 1)) := by
  unfold aDrop
  rw [List.filter_filter, take_snoc h]
  refine List.filter_congr fun e _ => ?_
  by_cases h1 : e.1 = k
  · simp [h1]
  · simp [h1]
theorem upd_self {H : Hp} {a : Addr} {o : HO} (h : H a = some o) : upd H a o = H := by
  funext b
  by_cases e : b = a
  · rw [e, upd_same, h]
  · rw [upd_ne e]
theorem aDrop_none {α : Type} {L : List (Str × α)} {k : Str} (h : aGet L k = none) : aDrop L k = L := List.filter_eq_self.mpr fun e he => decide_eq_true fun z => aGet_none.mp h e.2 (by rw [← z]; exact he)
theorem g_dpop2 {σ : L2.St} {H : Hp} {Q : VK} {td ty tx : TE} (q : td σ H fun x H1 => ∃ a, x = .ref a ∧ IsD H1 a ∧ ty σ H1 fun y H2 => tx σ H2 fun z H3 => ∃ kvs k, H3 a = some (.dK kvs) ∧ y = kV k ∧
  (∀ v, valV kvs k = some v → Q v (upd H3 a (.dK (dropK kvs k)))) ∧ (valV kvs k = none → Q z H3)) : tDPop2 td ty tx σ H Q := q
/-- d.pop(k, x), the answer not looked at -/
theorem g_popE {α : Type} {g : α → V} {H : Hp} {a : Addr} {z : Str} {L : List (Str × α)} {N : Hp → Prop} (h : H a = some (.dK (enc g L))) (q : N (upd H a (.dK (enc g (aDrop L z))))) :
    ∃ kvs k, H a = some (.dK kvs) ∧ V.str z = kV k ∧ (∀ v, valV kvs k = some v → N (upd H a (.dK (dropK kvs k)))) ∧ (valV kvs k = none → N H) :=
  ⟨_, .inr z, h, rfl, fun _ _ => by rw [dropK_enc]; exact q, fun e => by
    have e2 : aGet L z = none := by
      rw [valV_enc] at e
      exact Option.map_eq_none_iff.mp e
    rw [aDrop_none e2, upd_self h] at q
    exact q⟩
theorem aGet_drop_same {α : Type} (L : List (Str × α)) (k : Str) : aGet (aDrop L k) k = none := by rw [aGet_drop, if_pos rfl]
/-! ## 14. more of lists and dicts -/
section
variable {K : PySem.W.Frag} {σ : L2.St} {H : Hp} {Q : VK} {a b : Addr} {td : TE} {xs zs : List V} {i0 : Nat} {D : Ends} {tb : TS}
theorem g_cat (h1 : H a = some (.lst xs)) (h2 : H b = some (.lst zs)) (l : xs.length + zs.length ≤ sizeLine) (q : ∀ p, H p = none → Q (.ref p) (upd H p (.lst (xs ++ zs)))) : rCat (.ref a) (.ref b) H Q := ⟨a, b, xs, zs, rfl, rfl, h1, h2, l, q⟩
/-- a list taken once or not at all -/
theorem g_repB {c : Bool} (h : H a = some (.lst xs)) (l : xs.length ≤ sizeLine) (q : ∀ p, H p = none → Q (.ref p) (upd H p (.lst (if c then xs else [])))) : rRep (.ref a) (.int (if c then 1 else 0)) H Q := by
  refine ⟨a, _, xs, rfl, rfl, h, ?_, ?_, ?_, fun p hp => ?_⟩
  · cases c <;> decide
  · cases c <;> decide
  · cases c
    · exact Nat.le_trans (Nat.le_of_eq (Nat.mul_zero _)) (Nat.zero_le _)
    · exact Nat.le_trans (Nat.le_of_eq (Nat.mul_one _)) l
  · have e : (List.replicate (if c = true then (1 : Int) else 0).toNat xs).flatten = if c = true then xs else [] := by
      cases c
      · rfl
      · show (xs ++ ([] : List V)) = xs
        rw [List.append_nil]
    rw [e]
    exact q p hp
theorem g_ixS {z : Str} {i : Int} {c : Nat} (l : z.length ≤ sizeLine) (e : atI z.cps.toList i = some c) (q : Q (.str ⟨#[c]⟩) H) : rIxS (.str z) (.int i) H Q := ⟨z, i, c, rfl, rfl, l, e, q⟩
theorem merge_enc {α : Type} {g : α → V} : ∀ (B A : List (Str × α)), ((A ++ B).map (·.1)).Nodup → mergeK (enc g A) (enc g B) = enc g (A ++ B)
  | [], A, _ => by rw [List.append_nil]; rfl
  | e :: B, A, nd => by
    have ne : aGet A e.1 = none := aGet_none.mpr fun v m => by
      rw [List.map_append] at nd
      exact (List.nodup_append.mp nd).2.2 e.1 (List.mem_map.mpr ⟨_, m, rfl⟩) e.1 (by simp) rfl
    show mergeK (putK (enc g A) (Sum.inr e.1) (g e.2)) (enc g B) = _
    rw [putK_enc, aPut_new _ ne, merge_enc B (A ++ [(e.1, e.2)]) (by rw [List.append_assoc]; exact nd), List.append_assoc]
    rfl
/-- dict(pairs), the names all different -/
theorem g_dictN {α : Type} {g : α → V} {ps : List Addr} {L : List (Str × α)} (h : SqL K H a (ps.map V.ref)) (hp : Paired (fun p e => SqT K H p [.str e.1, g e.2]) ps L) (nd : (L.map (·.1)).Nodup) (q : ∀ p, H p = none → Q (.ref p) (upd H p (.dK (enc g L)))) : rDictP K [.ref a] H Q := by
  refine ⟨a, ps, enc g L, rfl, h, ?_, fun p hp => ?_⟩
  · have : ∀ {ps : List Addr} {L : List (Str × α)}, Paired (fun p e => SqT K H p [.str e.1, g e.2]) ps L → Paired (fun p kv => SqT K H p [kV kv.1, kv.2]) ps (enc g L) := by
      intro ps L q
      induction q with
      | nil => exact .nil
      | cons r t ih => exact .cons r ih
    exact this hp
  · have e := merge_enc (g := g) L [] (by simpa using nd)
    rw [show mergeK [] (enc g L) = enc g ([] ++ L) from e]
    exact q p hp
theorem keys_enc {α : Type} {g : α → V} (L : List (Str × α)) : keysV (enc g L) = L.map fun e => V.str e.1 := by
  unfold keysV enc
  rw [List.map_map]
  rfl
theorem paired_flat {α β γ : Type} {F : α → γ → Prop} {f : β → γ} : ∀ {ps : List α} {L : List β}, Paired F ps (L.map f) → Paired (fun p e => F p (f e)) ps L
  | _, [], h => by cases h; exact .nil
  | _, _ :: _, h => by
    cases h with
    | cons r t => exact .cons r (paired_flat t)
theorem paired_mem {α β : Type} {F : α → β → Prop} : ∀ {ps : List α} {L : List β}, Paired F ps L → Paired (fun p e => F p e ∧ e ∈ L) ps L
  | _, _, .nil => .nil
  | _, _, .cons r t => .cons ⟨r, List.mem_cons_self⟩ (Paired.mapP (paired_mem t) fun _ _ h => ⟨h.1, List.mem_cons_of_mem _ h.2⟩)
/-- [(k, d[k]) for k in d if q k] -/
theorem g_lcKN {α : Type} {g : α → V} {d : Addr} {L : List (Str × α)} {tt : TT} {te : TE} (h : H d = some (.dK (enc g L))) (nd : (L.map (·.1)).Nodup) (hd : ∀ (H' : Hp) (R : VK), R (.ref d) H' → td σ H' R) (hz : L.length < sizeLine) (q : Str → Bool)
    (ht : ∀ e ∈ L, ∀ od H', H' d = some (.frz od (.dK (enc g L))) → Kp [d] H H' → An tt ((wipe σ [i0]).set i0 (some (.str e.1))) H' (q e.1))
    (he : ∀ e ∈ L, ∀ od H', H' d = some (.frz od (.dK (enc g L))) → Kp [d] H H' → ∀ R : VK, (∀ t, H' t = none → R (.ref t) (upd H' t (.tup [.str e.1, g e.2]))) → te ((wipe σ [i0]).set i0 (some (.str e.1))) H' R)
    (k : ∀ (D : Addr) (H' : Hp) (ps : List Addr), H D = none → Same H H' → H' D = some (.lst (ps.map V.ref)) → Paired (fun t e => H t = none ∧ t ≠ D ∧ H' t = some (.tup [.str e.1, g e.2])) ps (L.filter fun e => q e.1) → Q (.ref D) H') : tLockE (tLc (iKeys td) (gName i0) tt te [i0]) σ H Q := by
  have back : ∀ x ∈ keysV (enc g L), ∃ e ∈ L, x = .str e.1 := fun x hx => by
    rw [keys_enc] at hx
    obtain ⟨e, he, rfl⟩ := List.mem_map.mp hx
    exact ⟨e, he, rfl⟩
  refine g_lcKT (kvs := enc g L) h hd (by rw [enc_len]; exact hz) (fun v => match v with | .str k => q k | _ => false) (fun v => match v with | .str k => [.str k, (valV (enc g L) (Sum.inr k)).getD .non] | _ => []) (fun x hx od H' e1 e2 => ?_) (fun x hx _ od H' e1 e2 R hR => ?_) fun D H' ps e1 e2 e3 e4 => k D H' ps e1 e2 e3 ?_
  · obtain ⟨e, he, rfl⟩ := back x hx
    exact ht e he od H' e1 e2
  · obtain ⟨e, hm, rfl⟩ := back x hx
    refine he e hm od H' e1 e2 R ?_
    have : valV (enc g L) (Sum.inr e.1) = some (g e.2) := enc_get (aGet_of_mem nd hm)
    have hR : ∀ t, H' t = none → R (.ref t) (upd H' t (.tup [.str e.1, (valV (enc g L) (Sum.inr e.1)).getD .non])) := hR
    rw [this] at hR
    exact hR
  · rw [keys_enc, List.filter_map] at e4
    refine Paired.mapP (paired_mem (paired_flat e4)) fun t e ⟨⟨h1, h2, h3⟩, hm⟩ => ⟨h1, h2, ?_⟩
    have hm := (List.mem_filter.mp hm).1
    have e5 : valV (enc g L) (Sum.inr e.1) = some (g e.2) := enc_get (aGet_of_mem nd hm)
    have h3 : H' t = some (.tup [.str e.1, (valV (enc g L) (Sum.inr e.1)).getD .non]) := h3
    rw [e5] at h3
    exact h3
/-- for over a dict's names, the dict locked -/
theorem r_forK {d : Addr} {kvs : List (Key × V)} (h : H d = some (.dK kvs)) (hd : ∀ (H' : Hp) (R : VK), R (.ref d) H' → td σ H' R) (Pv : Nat → L2.St → Hp → Prop) (h0 : ∀ od, Pv 0 σ (upd H d (.frz od (.dK kvs)))) 
    (hG : ∀ i σ H', Pv i σ H' → Kp [d] H H')
    (hb : ∀ od i x σ H' (D' : Ends), i < kvs.length → (keysV kvs)[i]? = some x → Pv i σ H' → H' d = some (.frz od (.dK kvs)) → (∀ σ H', Pv (i + 1) σ H' → H' d = some (.frz od (.dK kvs)) → D'.nx σ H') → tb D' (σ.set i0 (some x)) H') (hq : ∀ σ H', Pv kvs.length σ H' → D.nx σ (upd H' d (.dK kvs))) :
    tLock (tFor (iKeys td) (gName i0) tb) D σ H := by
  refine ⟨d, _, h, trivial, fun od => hd _ _ ⟨d, od, rfl, .inl ⟨kvs, upd_same, ?_⟩⟩⟩
  have hl : (keysV kvs).length = kvs.length := List.length_map ..
  refine run_of (walk_keysV kvs) (fun i σ H' => Pv i σ H' ∧ H' d = some (.frz od (.dK kvs))) ⟨h0 od, upd_same⟩ (fun _ _ _ z => z.2) (fun i x σ H' hi hx ⟨p, f⟩ => ?_) fun σ H' ⟨p, f⟩ => ⟨f, ?_⟩
  · exact hb od i x σ H' _ (by rw [hl] at hi; exact hi) hx p f fun σ H' p f => ⟨p, f⟩
  · rw [hl] at p
    exact hq σ H' p
end
theorem inV_str (k : Str) : ∀ E : List Str, inV (.str k) (E.map V.str) = decide (k ∈ E)
  | [] => rfl
  | x :: r => by
    have ih := inV_str k r
    show ((x == k) || inV (.str k) (r.map V.str)) = _
    rw [ih, Bool.beq_eq_decide_eq, ← Bool.decide_or]
    exact decide_eq_decide.mpr ⟨fun h => h.elim (fun e => by rw [e]; exact List.mem_cons_self) (List.mem_cons_of_mem _), fun h => (List.mem_cons.mp h).elim (fun e => .inl e.symm) .inr⟩
theorem flat_strs : ∀ E : List Str, (E.map V.str).all flatV = true
  | [] => rfl
  | _ :: r => flat_strs r
theorem g_andB {σ : L2.St} {H : Hp} {Q : VK} {ta tb : TE} {a b : Bool} (h1 : ∀ R : VK, R (.bl a) H → ta σ H R) (h2 : ∀ R : VK, R (.bl b) H → tb σ H R) (q : Q (.bl (a && b)) H) : tAndV ta tb σ H Q := by
  refine h1 _ ⟨a, rfl, ?_⟩
  cases a
  · exact iteF q
  · exact iteT (h2 _ q)
theorem g_orB {σ : L2.St} {H : Hp} {Q : VK} {ta tb : TE} {a b : Bool} (h1 : ∀ R : VK, R (.bl a) H → ta σ H R) (h2 : ∀ R : VK, R (.bl b) H → tb σ H R) (q : Q (.bl (a || b)) H) : tOrV ta tb σ H Q := by
  refine h1 _ ⟨a, rfl, ?_⟩
  cases a
  · exact iteF (h2 _ q)
  · exact iteT q
theorem paired_app {α β : Type} {F : α → β → Prop} : ∀ {l1 : List α} {m1 : List β} {l2 : List α} {m2 : List β}, Paired F l1 m1 → Paired F l2 m2 → Paired F (l1 ++ l2) (m1 ++ m2)
  | _, _, _, _, .nil, q => q
  | _, _, _, _, .cons r t, q => .cons r (paired_app t q)
theorem paired_get {α β : Type} {F : α → β → Prop} : ∀ {l : List α} {m : List β} {i : Nat} {y : β}, Paired F l m → m[i]? = some y → ∃ x, l[i]? = some x ∧ F x y
  | _, _, i, _, .nil, h => by simp at h
  | _, _, 0, _, .cons r _, h => ⟨_, rfl, by rw [← Option.some.inj h]; exact r⟩
  | _, _, i + 1, _, .cons _ t, h => paired_get (i := i) t h
/-- a value of the module's top -/
theorem pe_gcI {X : Cx} {x : Str} {v : V} {pos : Pos} (hg : Gl X x) (hm : ∃ u, X.mg x = some u ∧ RelV v u) (hd : (x == ("__debug__" : Str)) = false := by decide) : PE X (.Name x pos) (tC v) := by
  obtain ⟨u, hm, r⟩ := hm
  exact pe_glob hg hm r hd
section
variable {K : PySem.W.Frag} {σ : L2.St} {H : Hp} {Q : VK} {to : TE} {t : TA} {T : String} {r : V → List V → Hp → VK → Prop} {l : Addr} {xs : List V} {x y : V}
theorem g_bm (q : to σ H fun x H1 => tyV K T x H1 ∧ t σ H1 fun xs H2 => r x xs H2 Q) : tBM K T r to t σ H Q := q
theorem g_append (h : H l = some (.lst xs)) (few : xs.length < sizeLine) (q : Q .non (upd H l (.lst (xs ++ [y])))) : rAppend (.ref l) [y] H Q := ⟨l, xs, y, rfl, rfl, h, few, q⟩
theorem ty_lst (h : H l = some (.lst xs)) : tyV K "list" (.ref l) H := .inl ⟨rfl, xs, SqL.of h⟩
theorem g_isin {p : Addr} (h : SqL K H p xs ∨ SqT K H p xs) (h1 : flatV x = true) (h2 : xs.all flatV = true) (q : Q (.bl (inV x xs)) H) : rIn K false x (.ref p) H Q := ⟨p, xs, rfl, h, h1, h2, q⟩
end
end Pr

/-! lambdas kept in a list, called later -/
namespace Pr
open PySem PySem.Spec PyProof.Rows L2 LamX NdefX
/-- the object at f is the lambda F with the body e -/
def LmO (f : Addr) (F : NF) (e : Expr) : HO := .ext fun h => ∃ (od : Option Addr) (sl : Array (Option Value)) (pm ctv : Value), h.get? f = some (⟨.type "function", od, .func (PySem.W.kla_fn F.name F.qual F.params e F.scope F.cl pm (.ref F.c) ctv), sl⟩ : Obj)
theorem lmO_at {P : Program} {w : World} {H : Hp} {h : Heap} {f : Addr} {F : NF} {e : Expr} (hok : HOk P w H h) (q : H f = some (LmO f F e)) : ∃ (od : Option Addr) (sl : Array (Option Value)) (pm ctv : Value), h.get? f = some (⟨.type "function", od, .func (PySem.W.kla_fn F.name F.qual F.params e F.scope F.cl pm (.ref F.c) ctv), sl⟩ : Obj) := (hok f _ q).1
section
variable {X : Cx} {pins : List (Addr × Obj)} {σ : L2.St} {H : Hp} {s : Shared}
theorem lm_track {F : NF} {e : Expr} {o : Obj} {tk : Nat} {pm ctv : Value} (I : Inv X pins σ H s) (ho : o = { cls := .type "function", data := .func (PySem.W.kla_fn F.name F.qual F.params e F.scope F.cl pm (.ref F.c) ctv) }) :
    Inv X pins σ (upd H s.heap.objs.size (LmO s.heap.objs.size F e)) { s with heap := s.heap.push o, toks := tk } := by
  subst ho
  refine Inv.laid I (fun _ _ z => Heap.get?_push_of_some _ z) (Nat.le_refl _) ⟨⟨none, #[], pm, ctv, Heap.get?_push_size _ rfl⟩, ⟨_, Heap.get?_push_size _ rfl⟩, ?_⟩
  rintro g1 g2 ⟨od, sl, pm2, ct2, z⟩ st
  exact ⟨od, sl, pm2, ct2, st _ z⟩
theorem ext_new {H' : Hp} {b : Addr} {o : HO} (e : ExtN H H') (n : H' b = none) : ExtN H (upd H' b o) := fun c u z q => (upd_ne (ne_of_none (e c u z q) n)).trans (e c u z q)
theorem tabs_new {T : List (Addr × Str)} {H' : Hp} {b : Addr} {o : HO} (t : Tabs T H') (n : H' b = none) : Tabs T (upd H' b o) := t.ext fun _ _ z => (upd_ne (ne_of_none z n)).trans z
/-- a lambda is made and known from now on -/
theorem lm_make {T : List (Addr × Str)} {c P : Addr} {params : Arguments} {body : Expr} {scope : Scope} {pos : Pos} {E : Value → Shared → Prop} {Q : Value → Shared → Prop} (I : Inv X pins σ H s) (TB : TabB X.base X.mg c P) (hcode : X.env.code = .ref c)
    (hm : (P, X.env.qual ++ "<lambda>") ∈ T) (hu : ∀ p ∈ T, p.1 = P → p.2 = X.env.qual ++ "<lambda>") (hT : Tabs T H) (hdef : defaultsOf params X.env = ([], [])) (hfree : ∀ y ∈ scope.names, y.2 = .free → ∃ c, X.env.cells.lookup y.1 = some c)
    (k : ∀ (f c' : Addr) (H' : Hp) (s' : Shared), Inv X pins σ H' s' → ExtN H H' → Tabs T H' → H f = none → H' f = some (LmO f ⟨"<lambda>", X.env.qual ++ "<lambda>", params, [], scope, cloFrom X.env.cells scope.names [], c'⟩ body) → H' c' = some (CodeO c' (X.env.qual ++ "<lambda>")) → Q (.ref f) s') :
    wpAny (model X.prog X.w) X.A (eval (.Lambda params body scope pos) X.env) Q E s := by
  obtain ⟨tab, tabH, tri, told⟩ := hT (P, X.env.qual ++ "<lambda>") hm
  have bmP := TB.bm.keeps I.bk
  have getP : s.heap.get? P = some { cls := .none, data := .fields tab } := I.hok P _ tabH
  have cl0 := closure_ok (scope := scope) hfree
  apply PySem.W.kla_eval hdef
  rcases among : codeAmong pos tab.toList with _ | cv
  · refine PySem.W.kla_makeFunction (P := P) (c := c) (mg := X.mg) (ps := tab) cl0 I.ok.glob (I.mod.glob.keeps I.bk) hcode (TB.code.keeps I.bk) getP tri among TB.gP bmP ?_
    rintro c' ctv h' tk grow ge lt ⟨c2, oc, vs, t, e2, hoc, hd, hv⟩ tabNew
    cases e2
    have freshC : H c' = none := I.hok.fresh ge
    have J := inv_table (t' := tk) (more := #[rawInt pos.line, rawInt pos.col, .ref c']) (h' := h') I tabH (fun b o hb z => grow b o hb z) tabNew ge ⟨oc, vs, t, hoc, hd, hv⟩
    have eN : ExtN H (upd (upd H P (.tbl (tab ++ #[rawInt pos.line, rawInt pos.col, .ref c']))) c' (CodeO c' (X.env.qual ++ "<lambda>"))) := by
      intro b o z n
      have nb : b ≠ P := fun y => n tab (by rw [y, tabH] at z; exact (Option.some.inj z).symm)
      exact (upd_ne (ne_of_none z freshC)).trans ((upd_ne nb).trans z)
    have listE : (tab ++ #[rawInt pos.line, rawInt pos.col, .ref c']).toList = tab.toList ++ [rawInt pos.line, rawInt pos.col, .ref c'] := by simp
    have TN : Tabs T (upd (upd H P (.tbl (tab ++ #[rawInt pos.line, rawInt pos.col, .ref c']))) c' (CodeO c' (X.env.qual ++ "<lambda>"))) := by
      intro p hp
      by_cases at_ : p.1 = P
      · rw [at_, hu p hp at_]
        refine ⟨_, (upd_ne (ne_of_none tabH freshC)).trans upd_same, listE ▸ PySem.TriplesOk_snoc _ _ _ _ tri, ?_⟩
        intro p' cv' hcv
        rw [listE] at hcv
        rcases among_app _ tri hcv with z | z
        · obtain ⟨d, e1, e2⟩ := told p' cv' z
          exact ⟨d, e1, eN _ _ e2 codeO_ne⟩
        · exact ⟨c', z, upd_same⟩
      · obtain ⟨tb, a1, a2, a3⟩ := hT p hp
        refine ⟨tb, (upd_ne (ne_of_none a1 freshC)).trans ((upd_ne at_).trans a1), a2, fun p' cv' hcv => ?_⟩
        obtain ⟨d, e1, e2⟩ := a3 p' cv' hcv
        exact ⟨d, e1, eN _ _ e2 codeO_ne⟩
    have freshF := J.hok.fresh (Nat.le_refl _)
    have J2 := lm_track (F := ⟨"<lambda>", X.env.qual ++ "<lambda>", params, [], scope, cloFrom X.env.cells scope.names [], c'⟩) (e := body) (tk := tk) (pm := (X.mg "__name__").getD .none) (ctv := ctv) J rfl
    exact k h'.objs.size c' _ _ J2 (ext_new eN freshF) (tabs_new TN freshF) (I.hok.fresh (Nat.le_trans ge (Nat.le_of_lt lt))) upd_same ((upd_ne (Nat.ne_of_lt lt)).trans upd_same)
  · obtain ⟨c', rfl, codeH⟩ := told pos cv among
    refine PySem.W.kla_makeFunctionHit (P := P) (c := c) (mg := X.mg) (ps := tab) cl0 I.ok.glob (I.mod.glob.keeps I.bk) hcode (TB.code.keeps I.bk) getP tri among bmP ?_
    intro ctv h' tk grow _
    have J : Inv X pins σ H { s with heap := h', toks := tk } := Inv.kept I grow
    have freshF : H h'.objs.size = none := J.hok.fresh (Nat.le_refl _)
    have J2 := lm_track (F := ⟨"<lambda>", X.env.qual ++ "<lambda>", params, [], scope, cloFrom X.env.cells scope.names [], c'⟩) (e := body) (tk := tk) (pm := (X.mg "__name__").getD .none) (ctv := ctv) J rfl
    exact k h'.objs.size c' _ _ J2 (ext_new (ExtN.refl H) freshF) (tabs_new hT freshF) freshF upd_same ((upd_ne (ne_of_none codeH freshF)).trans codeH)
end
/-- the reading of «lambda: ..» as a value -/
def tMkLam (T : List (Addr × Str)) (e : Expr) (mk : Addr → NF) : TE := fun σ H Q => Tabs T H ∧ ∀ (f c' : Addr) (H' : Hp), ExtN H H' → Tabs T H' → H f = none → H' f = some (LmO f (mk c') e) → H' c' = some (CodeO c' (mk c').qual) → Q (.ref f) H'
theorem pe_lam {X : Cx} {T : List (Addr × Str)} {c P : Addr} {params : Arguments} {body : Expr} {scope : Scope} {pos : Pos} (TB : TabB X.base X.mg c P) (hcode : X.env.code = .ref c) (hm : (P, X.env.qual ++ "<lambda>") ∈ T) (hu : ∀ p ∈ T, p.1 = P → p.2 = X.env.qual ++ "<lambda>")
    (hdef : defaultsOf params X.env = ([], [])) (hfree : ∀ y ∈ scope.names, y.2 = .free → X.env.scope.names.lookup y.1 = some .cell ∨ X.env.scope.names.lookup y.1 = some .free) :
    PE X (.Lambda params body scope pos) (tMkLam T body fun c' => ⟨"<lambda>", X.env.qual ++ "<lambda>", params, [], scope, cloFrom X.env.cells scope.names [], c'⟩) := by
  refine ⟨fun pins s σ H Q I ⟨hT, h⟩ => ?_⟩
  refine lm_make I TB hcode hm hu hT hdef (fun y hy e => (hfree y hy e).elim (fun z => I.ok.has _ (.inl z)) fun z => I.ok.has _ (.inr z)) fun f c' H' s' J eN tN n1 n2 n3 => ?_
  exact ⟨.ref f, H', J, rfl, h f c' H' eN tN n1 n2 n3⟩
/-- what a lambda promises when it is called without arguments: ws tells its captured cells -/
structure LOk (P : Program) (w : World) (K : PySem.W.Frag) (mg : Str → Option Value) (base : Heap) (k : Nat) (f : Addr) (F : NF) (e : Expr) (fr : List Str) (sp : List (Option V) → Hp → VK → XK → Prop) : Prop where
  run : ∀ (A : Around) (outer : List Env) (s : Shared) (H : Hp) (ws : List (Option V)) (Q : VK) (E : XK), Room k A → Env0 P w K mg base A outer s H → H f = some (LmO f F e) → H F.c = some (CodeO F.c F.qual) → CellsAt F.cl fr ws s.heap H → sp ws H Q E →
    codeAny (model P w) A (.call (.ref f) ⟨[], []⟩) (CR (L2.CX P w) outer P w H s Q E) s
section
variable {P : Program} {w : World} {K : PySem.W.Frag} {mg : Str → Option Value} {base : Heap} {k j : Nat} {f : Addr} {F : NF} {e : Expr} {fr N : List Str} {sp : List (Option V) → Hp → VK → XK → Prop}
theorem LOk.mono (o : LOk P w K mg base k f F e fr sp) (h : k ≤ j) : LOk P w K mg base j f F e fr sp := ⟨fun A outer s H ws Q E hr => o.run A outer s H ws Q E (hr.mono h)⟩
/-- a lambda by its body -/
theorem lok_of (S : NScope N [] fr F.scope) (hb : ∀ (pm ctv : Value), bindArgs (PySem.W.kla_fn F.name F.qual F.params e F.scope F.cl pm (.ref F.c) ctv) ⟨[], []⟩ = pure [])
    (body : ∀ (A : Around) (outer : List Env) (s : Shared) (H : Hp) (ws : List (Option V)) (Q : VK) (E : XK), Room k (A.deeper (envF F f s.heap.objs.size)) → ws.length = fr.length → sp ws H Q E → ∃ t, PE (ncx (L2.CX P w) P w K mg base N F f A outer s H E) e t ∧ t (startF N [] ws) H Q) : LOk P w K mg base (k + 1) f F e fr sp := by
  refine ⟨fun A outer s H ws Q E room e0 tr cr cells prom => ?_⟩
  have unlim : s.heap.NoLimit := e0.mod.nolimit.keeps fun b o z => (e0.bs b o z).1
  obtain ⟨od, sl, pm, ctv, obj⟩ := lmO_at e0.hok tr
  obtain ⟨c2, oc, vs, t, cz, oz, dz, vz⟩ := codeO_at e0.hok cr
  apply PySem.W.kla_callFunE room.depth obj rfl S.co S.gen rfl ⟨c2, oc, vs, t, cz, oz, dz, vz⟩
  rw [hb pm ctv]
  refine wpAny_pure (wpAny_newFunctionEnv S.nocell (fun y hy => absurd hy (by simp)) (fun g ns sb => ⟨unlim.fresh _ sb, ?_⟩) S.kind)
  show codeAny _ _ (.expr e (envF F f s.heap.objs.size)) _ _
  obtain ⟨te, der, rd⟩ := body A outer s H ws Q E (room.deeper _) cells.len prom
  have keepG : ∀ b o, s.heap.get? b = some o → g.get? b = some o := fun b o z => sb.extBut b o (Nat.ne_of_lt (Heap.lt_size z)) (Heap.get?_push_of_some _ z)
  have start : Inv (ncx (L2.CX P w) P w K mg base N F f A outer s H E) [] (startF N [] ws) H { s with heap := g, toks := s.toks + ([] : List (Str × Value)).length } := inv_startN (ps := []) (us := []) S room.hd e0 rfl .nil cells ns keepG
  refine PySem.W.kla_codeExpr (wpAny_mono (der.run [] _ _ H Q start rd) (fun u s' hq => ?_) fun _ _ hq => hq)
  obtain ⟨v, H', I', rv, q⟩ := hq
  exact ⟨v, H', I'.os, I'.bare, I'.base, I'.hok, rv, q⟩
end
section
variable {X : Cx} {pins : List (Addr × Obj)} {σ : L2.St} {H : Hp} {s : Shared} {cl : List (Str × Addr)} {fr : List Str} {ws : List (Option V)}
theorem cells_later (C : CellsAt cl fr ws X.s_0.heap X.H_0) (hx : ∀ y c, cl.lookup y = some c → c ∉ X.ex) (I : Inv X pins σ H s) : CellsAt cl fr ws s.heap H := by
  have stay : ∀ y c v, cl.lookup y = some c → X.s_0.heap.IsCell c v → s.heap.IsCell c v := by
    rintro y c v e ⟨o, ho, hd⟩
    obtain ⟨sl, q⟩ := I.base.any ho (C.all y c e).1 (hx y c e)
    exact ⟨_, q, hd⟩
  refine ⟨C.len, fun y c e => ?_, C.inj, fun i y e => ?_⟩
  · obtain ⟨n, v, z⟩ := C.all y c e
    refine ⟨?_, v, stay y c v e z⟩
    obtain ⟨o, ho, _⟩ := z
    exact I.base.free c o ho n (hx y c e)
  · obtain ⟨c, hc, hv⟩ := C.has i y e
    refine ⟨c, hc, fun v ev => ?_⟩
    obtain ⟨u, r, z⟩ := hv v ev
    exact ⟨u, r, stay y c _ hc z⟩
theorem lm_fnAt {f : Addr} {F : NF} {e : Expr} (I : Inv X pins σ H s) (q : H f = some (LmO f F e)) : PySem.W.FnAt f s.heap := by
  obtain ⟨od, sl, pm, ctv, ho⟩ := lmO_at I.hok q
  exact ⟨_, od, _, sl, ho⟩
end
/-- a() in the def that got the lambda f, entered at s -/
theorem pe_actL {X : Cx} {k i : Nat} {f : Addr} {F : NF} {e : Expr} {fr : List Str} {ws : List (Option V)} {sp : List (Option V) → Hp → VK → XK → Prop} {a : Str} {E : XK} {p1 p2 : Pos} (L : LOk X.prog X.w X.K X.mg X.base k f F e fr sp) (hr : Room k X.A)
    (C : CellsAt F.cl fr ws X.s_0.heap X.H_0) (hex : X.ex = []) (hx : Passes (L2.CX X.prog X.w) X E) (hN : X.N[i]? = some a) (hv : Vis X.env.scope a) (hd : (a == ("__debug__" : Str)) = false := by decide) (hcd : (a == ("__classdict__" : Str)) = false := by decide) :
    PE X (.Call (.Name a p1) [] [] p2) (fun σ H Q => σ[i]? = some (some (.ref f)) ∧ H F.c = some (CodeO F.c F.qual) ∧ H f = some (LmO f F e) ∧ sp ws H Q E) := by
  refine ⟨fun pins s σ H Q I ⟨hs, hc, hf, hsp⟩ => ?_⟩
  refine wpAny_Call_Name_kw (thn ((pe_var (pos := p1) hN hv hd hcd).run pins s σ H (fun v H1 => v = .ref f ∧ H1 = H) I ⟨.ref f, hs, rfl, rfl⟩) ?_)
  rintro u s1 ⟨v, H1, I1, r1, rfl, rfl⟩
  obtain rfl : u = Value.ref f := r1
  refine PySem.W.callWith_F0 (lm_fnAt I1 hf) ?_
  have cells := cells_later C (fun y c _ => by rw [hex]; simp) I1
  refine wpAny_call (codeAny_mono (L.run X.A X.stack s1 H1 ws Q E hr I1.env0 hf hc cells hsp) fun r s' hq => ?_)
  rcases r with fl | e'
  · exact hx pins σ H1 s1 _ s' I1 hq
  · rcases e' with _ | _ | _ | u
    all_goals first
      | exact I1.after hq
      | exact False.elim hq
/-- the reading of «told(f)», f a name that holds a lambda; CP: what is known of the captured cells -/
def tToldL (P : Program) (w : World) (K : PySem.W.Frag) (mg : Str → Option Value) (base : Heap) (k i : Nat) (CP : NF → List Str → List (Option V) → Prop) (CS : Addr) (ret : Str) : TE := fun σ H Q =>
  ∃ (f : Addr) (F : NF) (e : Expr) (fr : List Str) (ws : List (Option V)) (sp : List (Option V) → Hp → VK → XK → Prop), σ[i]? = some (some (.ref f)) ∧ CP F fr ws ∧ LOk P w K mg base k f F e fr sp ∧ H f = some (LmO f F e) ∧ H F.c = some (CodeO F.c F.qual) ∧ TTold K CS ret (fun E H' Q' => sp ws H' Q' E) H Q
theorem pe_toldL {X : Cx} {CP : NF → List Str → List (Option V) → Prop} {x a ee ret bn : Str} {g CS : Addr} {k i : Nat} {pg : Arguments} {sg : Scope} {dV kV doc pm cdv ct oc : Value} {an od : Option Addr} {osl : Array (Option Value)} {Ng : List Str} {j : Nat} {p1 p2 p3 p4 p5 p6 p7 p8 p pb pos : Pos}
    (hC : ∀ F fr ws, CP F fr ws → CellsAt F.cl fr ws X.s_0.heap X.H_0 ∧ ∀ y c, F.cl.lookup y = some c → c ∉ X.ex) (hg : Gl X x) (hm : X.mg x = some (.ref g)) (hk : PySem.W.keepIn X.K (.ref g) = true)
    (lk : X.K.lookup g = some ⟨oc, od, .func (PySem.W.fnOf x x pg [.Try [.Return (some (.Call (.Name a p1) [] [] p2)) p3] [.ExceptHandler (some (.Name ee p4)) none [.Return (some (.Constant (.str ret) j p5)) p6] p7] [] [] p8] sg dV kV doc pm an cdv ct), osl⟩) (hcg : PySem.W.codeIn X.K cdv x = true)
    (hb : L2.Binds X.K (PySem.W.fnOf x x pg [.Try [.Return (some (.Call (.Name a p1) [] [] p2)) p3] [.ExceptHandler (some (.Name ee p4)) none [.Return (some (.Constant (.str ret) j p5)) p6] p7] [] [] p8] sg dV kV doc pm an cdv ct) [a] []) (Sg : FnScope Ng [a] sg) (hNg : Ng[0]? = some a) (hva : Vis sg a)
    (hge : sg.names.lookup ee = some .globalImplicit) (hme : X.mg ee = some (.ref CS)) (hde : (ee == ("__debug__" : Str)) = false) (h0 : ∀ f : Addr, (L2.start Ng [V.ref f])[0]? = some (some (V.ref f))) (hr : Room (k + 1) X.A)
    (hN : X.N[i]? = some bn) (hv : Vis X.env.scope bn) (hdb : (x == ("__debug__" : Str)) = false := by decide) (hbd : (bn == ("__debug__" : Str)) = false := by decide) (hbc : (bn == ("__classdict__" : Str)) = false := by decide) (hd : (a == ("__debug__" : Str)) = false := by decide) (hcd : (a == ("__classdict__" : Str)) = false := by decide) :
    PE X (.Call (.Name x p) [.Name bn pb] [] pos) (tToldL X.prog X.w X.K X.mg X.base k i CP CS ret) := by
  refine ⟨fun pins s σ H Q I ⟨f, F, e, fr, ws, sp, hs, cp, L, hf, hc, hT⟩ => ?_⟩
  obtain ⟨cells, cex⟩ := hC F fr ws cp
  refine wpAny_Call_Name_kw (ld_glob I hg hm ?_ hdb)
  refine PySem.W.callWith_K (h₀ := X.base) I.ok.mod.kin hk ?_ (by rfl) (by rfl)
  show wpAny _ _ (spliced ((false, eval (.Name bn pb) X.env) :: backTo pos (starEach [] X.env))) _ _ s
  refine Calls.spliced_cons (thn ((pe_var (pos := pb) hN hv hbd hbc).run pins s σ H (fun v H1 => v = .ref f ∧ H1 = H) I ⟨.ref f, hs, rfl, rfl⟩) ?_)
  rintro u s1 ⟨v, H1, I1, r1, rfl, rfl⟩
  obtain rfl : u = Value.ref f := r1
  refine Calls.spliced_nil ⟨I1.kIn, ?_⟩
  have done : codeAny (model X.prog X.w) X.A (.call (.ref g) ⟨[.ref f], []⟩) (CR C8.CX0 X.stack X.prog X.w H1 s1 Q C8.E0) s1 := by
    refine run_ofS (N := Ng) (ps := [a]) (us := [.ref f]) (vs := [.ref f]) lk hcg Sg hr I1.env0 (hb s1 [.ref f] I1.kIn rfl) (.cons rfl .nil) rfl fun room => ?_
    have G := told_gives (X := X) (Ng := Ng) (x := x) (a := a) (e := ee) (q := F.qual) (ret := ret) (sg := sg) (g := g) (CS := CS) (cdg := cdv) (j := j) (p1 := p1) (p2 := p2) (p3 := p3) (p4 := p4) (p5 := p5) (p6 := p6) (p7 := p7) (p8 := p8) hge hme hde h0
    obtain ⟨t, pt, ht⟩ := G f F.c s1 H1 Q (fun E H' Q' => H' f = some (LmO f F e) ∧ sp ws H' Q' E) (fun W pn xe E q1 q2 tk hW =>
      pe_actL (X := (cxOf C8.CX0 X.prog X.w X.K X.mg X.base Ng x sg g cdv X.A X.stack s1 H1 C8.E0).tr pn xe) L room (cells_later cells cex I1) rfl (passes_call tk hW) hNg hva hd hcd) hc ⟨hf, hT⟩
    exact ⟨t, pt.nox, ht⟩
  refine wpAny_call (codeAny_mono done fun r s2 hq => ?_)
  rcases r with z | z
  · exact (show False from hq).elim
  · rcases z with _ | _ | _ | u
    all_goals first
      | exact I1.after hq
      | exact False.elim hq
end Pr

/-! a list comprehension whose test may lean on the frame's own cells -/
namespace Pr
open PySem PySem.Spec PyProof.Rows L2 LamX NdefX
section
variable {X : Cx}
theorem pe_lcI {elt tg iter : Expr} {ifs : List Expr} {scope : Scope} {own : List (Str × Nat)} {pos : Pos} {wi : TI} {g : TG} {tt : L2.St → TT} {te : TE} (calm : X.calm = true) (nodup : X.N.Nodup) (src : PI X tg iter wi) (blk : BlkOk X.N X.env.scope scope own)
    (gs : ∀ (s : Shared) (H : Hp) (C : Addr) (cl : List (Str × Addr)) (fp : List Addr), PG (X.blk s H scope (compEnvC scope cl C X.env) fp) tg g)
    (ts : ∀ (pins : List (Addr × Obj)) (σ : L2.St) (s : Shared) (H : Hp) (C : Addr) (cl : List (Str × Addr)) (fp : List Addr), Inv X pins σ H s → (∀ b ∈ fp, FpOk X pins H b) → PTs (X.blk s H scope (compEnvC scope cl C X.env) fp) ifs (tt σ))
    (es : ∀ (s : Shared) (H : Hp) (C : Addr) (cl : List (Str × Addr)) (fp : List Addr), PE (X.blk s H scope (compEnvC scope cl C X.env) fp) elt te) (fold : ∀ x, foldedSetIterable iter X.env x = pure x := by intro _; rfl) :
    PE X (.ListComp elt [⟨tg, iter, ifs, 0⟩] scope pos) (fun σ H Q => tLc wi g (tt σ) te (own.map (·.2)) σ H Q) := by
  refine ⟨fun pins s σ H Q I rd => ?_⟩
  rw [eval_ListComp]
  have frees : ∀ y ∈ scope.names, y.2 = .free → ∃ c, X.env.cells.lookup y.1 = some c := by
    intro y hy e
    cases blk.free y hy e with
    | inl z => exact I.ok.has _ (.inl z)
    | inr z => exact I.ok.has _ (.inr z)
  apply wpAny_comprehension_free (use := none) rfl fold (closure_ok frees) blk.kind (fun y hy e => by rw [blk.uniq y hy, e])
  refine thn (src.run pins s σ H _ I rd) fun itx sA ha => thn ha fun itw sB hb => ?_
  obtain ⟨it, fp, tn, J, HB, rfl, IB, turns, stB, fpB, go⟩ := hb
  have room0 : (0 : Nat) ≤ sizeLine := Nat.zero_le _
  refine wpAny_newObj_type (newEnv_comp ?_) room0
  generalize eD : sB.heap.objs.size = D
  have noD : HB D = none := IB.hok.fresh (Nat.le_of_eq eD)
  obtain ⟨W, ⟨m0, W0⟩, turn⟩ := go D noD
  generalize eC : ({ sB with heap := sB.heap.push { cls := .type "list", data := .seq ([] : List Value).toArray } } : Shared) = sC
  have heapC : sC.heap = sB.heap.push { cls := .type "list", data := .seq ([] : List Value).toArray } := by subst eC; rfl
  have IC : Inv X pins σ (upd HB D (.lst [])) sC := by
    subst eC
    refine Inv.laid (t' := sB.toks) IB (fun _ _ e => Heap.get?_push_of_some _ e) (Nat.le_of_eq eD) ⟨Nat.zero_le _, [], 0, .nil, ?_⟩
    subst eD
    exact Heap.get?_push_size _ rfl
  have inB : ∀ b ∈ fp, b < sB.heap.objs.size := by
    intro b hb
    obtain ⟨ob, z, _⟩ := turns.obj _ _ stB b hb
    exact Heap.lt_size z
  have fpC : ∀ b ∈ fp, FpOk X pins (upd HB D (.lst [])) b ∧ b < sC.heap.objs.size := by
    intro b hb
    have lt := inB b hb
    have nD : b ≠ D := by rw [← eD]; exact Nat.ne_of_lt lt
    refine ⟨⟨(upd_ne nD).trans (fpB b hb).1, (fpB b hb).2⟩, ?_⟩
    rw [heapC, Heap.size_push]
    exact Nat.lt_succ_of_lt lt
  have stC : tn 0 sC.heap := turns.keep _ _ _ stB fun _ _ _ e => by rw [heapC]; exact Heap.get?_push_of_some _ e
  have IE := block_start IC blk nodup fpC
  have dg := gs sC (upd HB D (.lst [])) sC.heap.objs.size (cellsFrom (sC.heap.objs.size + 1) scope.names (cloFrom X.env.cells scope.names [])) fp
  have dt := ts pins σ sC (upd HB D (.lst [])) sC.heap.objs.size (cellsFrom (sC.heap.objs.size + 1) scope.names (cloFrom X.env.cells scope.names [])) fp IC (fun b hb => (fpC b hb).1)
  have de := es sC (upd HB D (.lst [])) sC.heap.objs.size (cellsFrom (sC.heap.objs.size + 1) scope.names (cloFrom X.env.cells scope.names [])) fp
  show codeAny _ _ (.compStart (.ListComp elt [⟨tg, iter, ifs, 0⟩] scope pos) 0 (.ref it) (.ref D) (compEnvC scope (cellsFrom (sC.heap.objs.size + 1) scope.names (cloFrom X.env.cells scope.names [])) sC.heap.objs.size X.env)) _ { sC with heap := pushCells (sC.heap.push { cls := .type "dict", data := .dict #[] }) scope.names }
  have nofp : ∀ b ∈ fp, (upd HB D (.lst [])) b = none := fun b hb => (fpC b hb).1.1
  generalize eE : compEnvC scope (cellsFrom (sC.heap.objs.size + 1) scope.names (cloFrom X.env.cells scope.names [])) sC.heap.objs.size X.env = en at IE dg dt de ⊢
  have locE : en.locals = sC.heap.objs.size := by rw [← eE]; rfl
  generalize eH : upd HB D (.lst []) = HC at IC IE dg dt de W0 nofp fpC
  generalize eF : ({ sC with heap := pushCells (sC.heap.push { cls := .type "dict", data := .dict #[] }) scope.names } : Shared) = sE at IE ⊢
  have stE : tn 0 sE.heap := turns.keep _ _ _ stC fun _ _ _ e => by subst eF; exact pushCells_keeps _ _ _ _ (Heap.get?_push_of_some _ e)
  have fpX : ∀ {τ : L2.St} {G : Hp} {z : Shared}, Inv (X.blk sC HC scope en fp) [] τ G z → (∀ b ∈ fp, G b = none) → ∀ b ∈ fp, FpOk (X.blk sC HC scope en fp) [] G b := by
    intro τ G z Iz no b hb
    exact ⟨no b hb, (Iz.ok.exf b hb).1, Iz.ok.exfs b hb, .inl hb, fun x c e => (Iz.ok.exf b hb).2 x c e, fun p hp => absurd (show p ∈ ([] : List (Addr × Obj)) ++ [] from hp) (by simp)⟩
  have loop : codeAny (model X.prog X.w) X.A (.compLoop (.ListComp elt [⟨tg, iter, ifs, 0⟩] scope pos) 0 (.ref it) (.ref D) en) (compPost (model X.prog X.w) X.A X.xe none (EP X pins σ Q) (.ref D) en.locals) sE := by
    refine compLoop_any (fun n z => ∃ i G, Inv (X.blk sC HC scope en fp) [] (wipe σ (own.map (·.2))) G z ∧ tn i z.heap ∧ (∀ b ∈ fp, G b = none) ∧ W i n G) ?_ m0 ⟨0, HC, IE, stE, nofp, W0⟩
    rintro n z5 ⟨i, G5, I5, st5, no5, w5⟩
    rcases turn i n G5 w5 with ⟨stop, fin⟩ | ⟨goes, Nx, nexts, step⟩
    · refine thnF (turns.done (X.blk sC HC scope en fp) rfl rfl rfl calm i [] z5 _ G5 (fun _ _ => False) I5 (fpX I5 no5) st5 stop) ?_
      rintro r z6 ⟨rfl, I6⟩
      have I7 : Inv X pins σ G5 z6 := IC.call' (ch := fp) I6.os I6.base I6.hok I6.bare fun b hb => by
        obtain ⟨⟨q1, q2, q3, q4, q5, q6⟩, _⟩ := fpC b hb
        exact ⟨q4, q2, q5, q6⟩
      have noL : G5 en.locals = none := I6.free
      obtain ⟨mm, ns, _⟩ := I6.loc
      have own_ := IC.fpOk (Nat.le_of_eq locE.symm) noL
      refine ⟨mm, ns, fun h'' sb => ?_⟩
      obtain ⟨f0, f1, f2, f3, f4, f5⟩ := own_
      exact ⟨.ref D, G5, I7.turned (t' := z6.toks) (fun b o hb e => (sb.2 b hb).trans e) f0 f1 f3 f4 f5, rfl, fin⟩
    · refine thnF (turns.item (X.blk sC HC scope en fp) rfl rfl rfl calm i [] z5 _ G5 (fun _ _ => False) I5 (fpX I5 no5) st5 goes) ?_
      rintro r z6 ⟨u, rfl, h6⟩
      refine thnF h6 ?_
      rintro _ z7 ⟨x, G7, I7, r7, y7, st7, no7⟩
      have J7 := I7.pinned (fpX I7 no7) (turns.obj _ _ st7)
      refine thnF (dg.run _ z7 _ G7 x u _ J7 r7 (step x G7 y7)) ?_
      rintro _ z8 ⟨σ8, G8, I8, same8, q8⟩
      refine thnF (dt.run _ z8 σ8 G8 _ I8 q8) ?_
      rintro b z9 ⟨G9, I9, q9⟩
      have back : ∀ {z : Shared} {G : Hp}, Inv (X.blk sC HC scope en fp) ([] ++ pinsAt fp z7.heap) σ8 G z → Nx G → ∃ m, m < n ∧ ∃ i G, Inv (X.blk sC HC scope en fp) [] (wipe σ (own.map (·.2))) G z ∧ tn i z.heap ∧ (∀ b ∈ fp, G b = none) ∧ W i m G := by
        intro z G Iz nx
        obtain ⟨m', less, w'⟩ := nexts G nx
        have pinned : ∀ b ∈ fp, ∀ o, z7.heap.get? b = some o → z.heap.get? b = some o ∧ G b = none := by
          intro b hb o e
          have q := Iz.pin (b, o) (List.mem_append_right _ (List.mem_append_right _ (mem_pinsAt hb e)))
          exact ⟨q.1, q.2.1⟩
        have len8 : (wipe σ (own.map (·.2))).length = σ8.length := by rw [← same8, wipe_length]
        refine ⟨m', less, i + 1, G, (Iz.unpinned (pins := [])).weak len8 (fun j v e => (wipe_some (by rw [same8]; exact e)).1), turns.keep _ _ _ st7 fun b hb o e => (pinned b hb o e).1, fun b hb => ?_, w'⟩
        obtain ⟨o, e, _⟩ := turns.obj _ _ st7 b hb
        exact (pinned b hb o e).2
      cases b
      · exact back I9 q9
      · refine thnF (de.run _ z9 σ8 G9 _ I9 q9) ?_
        rintro vz z10 ⟨yv, G10, I10, r10, acc, hD10, few10, nx⟩
        exact app_ok (X := X.blk sC HC scope en fp) I10 hD10 few10 r10 fun z11 I11 => back I11 nx
  rw [← locE]
  exact codeAny_compStart_list loop (turns.self X.A 0 _ _ _ stE loop)
end
end Pr

open PySem PySem.Spec PyProof.Rows L2
/-! shared lemmas that began in k18's parts -/
namespace Pr
/-- a comprehension without a test, each element a new object -/
theorem r_lclN {K : PySem.W.Frag} {σ : L2.St} {H1 : Hp} {Q : VK} {a : Addr} {te : TE} {i0 : Nat} {xs : List V} (h : SqL K H1 a xs) (hz : xs.length < sizeLine) (C : HO → Prop)
    (he : ∀ x ∈ xs, ∀ H', Same H1 H' → ∀ R : VK, (∀ t o, H' t = none → C o → R (.ref t) (upd H' t o)) → te ((wipe σ [i0]).set i0 (some x)) H' R)
    (q : ∀ (D : Addr) (H' : Hp) (ps : List Addr), H1 D = none → Same H1 H' → H' D = some (.lst (ps.map V.ref)) → ps.length = xs.length → (∀ p ∈ ps, ∃ o, H' p = some o ∧ C o) → Q (.ref D) H') :
    ∃ b, V.ref a = .ref b ∧ (∃ xs, SqL K H1 b xs) ∧ ∀ D, H1 D = none → LcRun (Itl K b) (gName i0) tYes te [i0] σ H1 D Q := by
  refine ⟨a, rfl, ⟨xs, h⟩, fun D hD => ?_⟩
  refine lc_it (Qd := fun H => Q (.ref D) H) (walk_list (xs := xs)) (fun i H => ∃ ps : List Addr, Same H1 H ∧ H D = some (.lst (ps.map V.ref)) ∧ ps.length = (xs.take i).length ∧ ∀ p ∈ ps, p ≠ D ∧ ∃ o, H p = some o ∧ C o)
    ⟨[], Kp.to_same (.new .refl hD), upd_same, rfl, fun _ z => by cases z⟩ (fun i H _ ⟨_, e, _⟩ => Kp.seq (M := []) (Kp.same e) (by simp) h) (fun i x H H' hi hh y => ?_) (fun H ⟨ps, e1, e2, e3, e4⟩ => q D H ps hD e1 e2 (by rw [e3, List.take_length]) fun p hp => (e4 p hp).2)
  obtain ⟨ps, s1, hl, le, all⟩ := hh
  obtain ⟨rfl, hx⟩ := y
  show wipe ((wipe σ [i0]).set i0 (some x)) [i0] = wipe σ [i0] ∧ _
  refine ⟨wipe_set σ i0 _, ?_⟩
  unfold tYes
  dsimp only
  rw [if_pos rfl]
  refine he x (take_mem hx) _ s1 _ fun t o nt co => ?_
  have nDt : D ≠ t := ne_of_none hl nt
  have nt1 : H1 t = none := by
    cases e : H1 t with
    | none => rfl
    | some u => rw [s1 t u e] at nt; cases nt
  have lt := List.length_take_le i xs
  refine ⟨_, (upd_ne nDt).trans hl, by rw [List.length_map]; omega, ps ++ [t], fun b u e => ?_, ?_, ?_, fun p hp => ?_⟩
  · rw [upd_ne (ne_of_none e hD), upd_ne (ne_of_none e nt1)]
    exact s1 b u e
  · rw [upd_same, List.map_append]
    rfl
  · rw [take_snoc hx, List.length_append, List.length_append, le]
    rfl
  · rcases List.mem_append.mp hp with z | z
    · obtain ⟨n1, u, e, c⟩ := all p z
      exact ⟨n1, u, by rw [upd_ne n1, upd_ne (ne_of_none e nt)]; exact e, c⟩
    · rw [List.mem_singleton.mp z]
      exact ⟨nDt.symm, o, by rw [upd_ne nDt.symm, upd_same], co⟩
theorem cut_int (ns : List Int) (lo hi : Option Int) : ∃ ms : List Int, cutV (ns.map V.int) lo hi = ms.map V.int ∧ ms.length ≤ ns.length := by
  refine ⟨(ns.drop (HT.sIx (ns.map V.int).length 0 lo)).take (HT.sIx (ns.map V.int).length (ns.map V.int).length hi - HT.sIx (ns.map V.int).length 0 lo), ?_, ?_⟩
  · unfold cutV
    rw [List.map_take, List.map_drop]
  · rw [List.length_take, List.length_drop]
    omega
end Pr
namespace Pr
open LamX NdefX
/-- what is known of a lambda's captured cells where the comprehension begins -/
def CapP (X : Cx) (σ : L2.St) (F : NF) (fr : List Str) (ws : List (Option V)) : Prop := ∃ js : List Nat, (∀ y ∈ F.scope.names, y.2 = .free → X.env.scope.names.lookup y.1 = some .cell ∨ X.env.scope.names.lookup y.1 = some .free) ∧ F.cl = cloFrom X.env.cells F.scope.names [] ∧ (∀ y ∈ fr, (y, NameKind.free) ∈ F.scope.names) ∧
  js.map (fun j => X.N[j]?) = fr.map some ∧ ws = js.map (slotAt σ)
theorem capP_ok {X : Cx} {pins : List (Addr × Obj)} {σ : L2.St} {s : Shared} {H : Hp} {fp : List Addr} (I : Inv X pins σ H s) (hfp : ∀ b ∈ fp, FpOk X pins H b) (F : NF) (fr : List Str) (ws : List (Option V)) (c : CapP X σ F fr ws) :
    CellsAt F.cl fr ws s.heap H ∧ ∀ y a, F.cl.lookup y = some a → a ∉ fp := by
  obtain ⟨js, hf, hc, hr, hj, hw⟩ := c
  rw [hc, hw]
  refine ⟨cells_of I (Caps.made I.ok hf hr hj), fun y a e m => ?_⟩
  have hfree : ∀ y ∈ F.scope.names, y.2 = .free → ∃ c, X.env.cells.lookup y.1 = some c := fun y hy e => (hf y hy e).elim (fun z => I.ok.has _ (.inl z)) fun z => I.ok.has _ (.inr z)
  obtain ⟨_, _, _, _, z, _⟩ := hfp a m
  exact z y a (clo_cm hfree e) rfl
end Pr
namespace Pr
/-- a comprehension whose test lets nothing through -/
theorem r_lclF {K : PySem.W.Frag} {σ : L2.St} {H1 : Hp} {Q : VK} {a : Addr} {tt : TT} {te : TE} {i0 : Nat} {xs : List V} (h : SqL K H1 a xs)
    (ht : ∀ x ∈ xs, ∀ H', Same H1 H' → ∀ R : Bool → Hp → Prop, (∀ H'', Same H' H'' → R false H'') → tt ((wipe σ [i0]).set i0 (some x)) H' R)
    (q : ∀ (D : Addr) (H' : Hp), H1 D = none → Same H1 H' → H' D = some (.lst []) → Q (.ref D) H') :
    ∃ b, V.ref a = .ref b ∧ (∃ xs, SqL K H1 b xs) ∧ ∀ D, H1 D = none → LcRun (Itl K b) (gName i0) tt te [i0] σ H1 D Q := by
  refine ⟨a, rfl, ⟨xs, h⟩, fun D hD => ?_⟩
  refine lc_it (Qd := fun H => Q (.ref D) H) (walk_list (xs := xs)) (fun i H => Same H1 H ∧ H D = some (.lst [])) ⟨Kp.to_same (.new .refl hD), upd_same⟩ (fun i H _ ⟨e, _⟩ => Kp.seq (M := []) (Kp.same e) (by simp) h) (fun i x H H' hi hh y => ?_) (fun H ⟨e1, e2⟩ => q D H hD e1 e2)
  obtain ⟨s1, hl⟩ := hh
  obtain ⟨rfl, hx⟩ := y
  show wipe ((wipe σ [i0]).set i0 (some x)) [i0] = wipe σ [i0] ∧ _
  exact ⟨wipe_set σ i0 _, ht x (take_mem hx) _ s1 _ fun H'' s2 => iteF ⟨fun b o z => s2 _ _ (s1 _ _ z), s2 _ _ hl⟩⟩
end Pr
namespace Pr
section
variable {H : Hp}
theorem keepO {N : List Addr} {H H' : Hp} {a : Addr} {o : HO} (kp : Kp N H H') (dn : ∀ b ∈ N, ∃ kvs, H b = some (.dK kvs)) (h : H a = some o) (n : ∀ kvs, o ≠ .dK kvs) : H' a = some o := kp.get h fun b hb z => by
  obtain ⟨kvs, e⟩ := dn b hb
  rw [e] at z
  exact n kvs (Option.some.inj z).symm
theorem kpOwn {N D : List Addr} {H0 H H' : Hp} (a : Kp D H0 H) (b : Kp N H H') (n : ∀ c ∈ N, H0 c = none) : Kp D H0 H' := fun c o e m => b c o (a c o e m) fun z => by
  rw [n c z] at e
  cases e
end
end Pr
namespace Pr
/-- for .. in d.items(), the dict locked -/
theorem r_forI {α : Type} {g : α → V} {d : Addr} {L : List (Str × α)} {σ : L2.St} {H : Hp} {td : TE} {tg : TG} {tb : TS} {D : Ends} (h : H d = some (.dK (enc g L))) (hd : ∀ od (R : VK), R (.ref d) (upd H d (.frz od (.dK (enc g L)))) → td σ (upd H d (.frz od (.dK (enc g L)))) R) (Pv : Nat → L2.St → Hp → Prop) (h0 : ∀ od, Pv 0 σ (upd H d (.frz od (.dK (enc g L)))))
    (hb : ∀ od i e σ H' T (D' : Ends), L[i]? = some e → Pv i σ H' → H' d = some (.frz od (.dK (enc g L))) → H' T = none → (∀ σ H', Pv (i + 1) σ H' → H' d = some (.frz od (.dK (enc g L))) → D'.nx σ H') → tg (.ref T) σ (upd H' T (.tup [.str e.1, g e.2])) fun σ2 H2 => tb D' σ2 H2)
    (hq : ∀ σ H', Pv L.length σ H' → D.nx σ (upd H' d (.dK (enc g L)))) : tLock (tFor (iItems td) tg tb) D σ H := by
  refine ⟨d, _, h, trivial, fun od => hd _ _ ⟨d, od, enc g L, rfl, upd_same, ?_⟩⟩
  refine for_it (walk_items (kvs := enc g L)) (fun i σ H' => Pv i σ H' ∧ H' d = some (.frz od (.dK (enc g L)))) ⟨h0 od, upd_same⟩ (fun _ _ _ _ z => z.2) (fun i x σ H1 H2 hi ⟨p, f⟩ y => ?_) fun σ H' ⟨p, f⟩ => ⟨f, ?_⟩
  · obtain ⟨T, a, b, rfl, nT, rfl, e1, e2⟩ := y
    rw [enc_len] at hi
    obtain ⟨e, he⟩ : ∃ e, L[i]? = some e := ⟨L[i], List.getElem?_eq_getElem hi⟩
    have h2 : (enc g L)[i]? = some (Sum.inr e.1, g e.2) := by unfold enc; rw [List.getElem?_map, he]; rfl
    dsimp only at e1 e2
    rw [h2] at e1 e2
    cases e1
    cases e2
    exact hb od i e σ H1 T _ he p f nT fun σ H' p f => ⟨p, f⟩
  · rw [enc_len] at p
    exact hq σ H' p
end Pr

/-! sum(.. for k, v in d.items()) -/
namespace Pr
open PySem PySem.Spec PyProof.Rows L2
section
variable {prog : Program} {w : World} {A : Around}
theorem walksU_items (hh : A.handled = none) (it d : Addr) (hne : d ≠ it) (kvs : List (Key × Value)) (ep : Nat) :
    WalksU prog w A it [it, d] [it] kvs.length (fun i vals => ∃ k v key, kvs[i]? = some (k, v) ∧ (mixKind prog w).is k key = true ∧ vals = #[key, v]) (fun i h => (∃ ok ov, IsItemIter h it d i kvs.length ep ok ov) ∧ h.DictAt (mixKind prog w) d kvs ep)
      (fun i T h => (∃ ok ov, IsItemIterOut h it d (i + 1) kvs.length ep ok ov T) ∧ h.DictAt (mixKind prog w) d kvs ep ∧ T ≠ it) where
  sub := fun b hb => by simp at hb; simp [hb]
  frame := fun i h h' ⟨⟨ok, ov, e⟩, m⟩ k => ⟨⟨ok, ov, k it (by simp) _ e⟩, m.at fun o z => k d (by simp) o z⟩
  item := fun i s Q E hi ⟨⟨ok, ov, e⟩, m⟩ hQ => by
    obtain ⟨⟨k, v⟩, hkv⟩ : ∃ p, kvs[i]? = some p := ⟨kvs[i], List.getElem?_eq_getElem hi⟩
    refine wpAny_pyNext_items_item e m hkv fun key h' hkey ho hT hz hk => ?_
    have lt : it < s.heap.objs.size := Heap.lt_size e
    exact hQ s.heap.objs.size #[key, v] h' s.toks ⟨k, v, key, hkv, hkey, rfl⟩ ⟨_, hT, rfl, _, rfl⟩ ⟨⟨key, v, ho⟩, m.at fun o z => hk d o hne z, Nat.ne_of_gt lt⟩ fun b o hb z => hk b o (by simpa using hb) z
  go := fun elts k pos i T s Q E ⟨⟨ok, ov, e⟩, m, n⟩ hQ => by
    refine wpAny_letOwnedTupleGo_items e fun h' e' sb => ?_
    exact hQ h' ⟨⟨ok, ov, e'⟩, m.at fun o z => (sb.2 d hne).trans z⟩ fun b o hb z => (sb.2 b (by simpa using hb)).trans z
  apart := fun i T h ⟨_, _, n⟩ => by simpa using n
  done := fun s Q E ⟨⟨ok, ov, e⟩, m⟩ hQ => wpAny_pyNext_items_end hh e m (List.getElem?_eq_none (Nat.le_refl _)) fun h' eb => hQ h' s.toks fun b o hb z => eb b o (by simpa using hb) z
  self := fun i s Q E ⟨⟨ok, ov, e⟩, _⟩ h => PySem.W.kcp_self e h
end
/-- the generator expression's scope: two names of its own -/
structure GenS2 (env : Env) (scope : Scope) (xa xb : Str) : Prop where
  kind : scope.kind = .function
  co : scope.isCoroutine = false
  cell : ∀ y ∈ scope.names, y.2 ≠ .cell
  dot : scope.names.lookup (".0" : Str) = some NameKind.local
  la : scope.names.lookup xa = some .local
  lb : scope.names.lookup xb = some .local
  ab : xa ≠ xb
  free : ∀ y ∈ scope.names, y.2 = .free → ∃ c, env.cells.lookup y.1 = some c
/-- the element: of two texts the number f -/
def EltI (prog : Program) (w : World) (base : Heap) (env : Env) (scope : Scope) (xa xb : Str) (elt : Expr) (Pz : Str → Str → Prop) (f : Str → Str → Int) : Prop :=
  ∀ (cl : List (Str × Addr)) (L : Addr) (code : Value) (A' : Around) (E' : Value → Shared → Prop) (ka va : Str) (ta tv : Tok) (s₂ : Shared) (m₂ : Str → Option Value), Pz ka va → (∀ b o, base.get? b = some o → s₂.heap.get? b = some o) → s₂.heap.Ns L m₂ → m₂ xa = some (.str ka ta) → m₂ xb = some (.str va tv) →
    wpAny (model prog w) A' (eval elt (genEnv scope cl L code builtinsNs env)) (fun y s₃ => (∃ t', y = .int (f ka va) t') ∧ Keeps s₂ s₃) E' s₂
def valAt (f : Str → Str → Int) (L : List (Str × Str)) (j : Nat) : Int := match L[j]? with
  | some e => f e.1 e.2
  | none => 0
/-- sum(.. for a, b in d.items()), the dict of texts by texts -/
def tSumIt (P : Addr) (Pz : Str → Str → Prop) (f : Str → Str → Int) (td : TE) : TE := fun σ H Q => td σ H fun x H1 => ∃ (d : Addr) (L : List (Str × Str)), x = .ref d ∧ H1 d = some (.dK (enc V.str L)) ∧ (∀ e ∈ L, Pz e.1 e.2) ∧ GxR.TabG H1 P ∧
  (∀ j, j < L.length → InLong (valAt f L j) ∧ InLong (preSum (valAt f L) (j + 1))) ∧ ∀ H2, GxR.Tabbed P H1 H2 → Q (.int (preSum (valAt f L) L.length)) H2
theorem kv_str {L : List (Str × Str)} {vs : List (Key × Value)} (kv : KV (enc V.str L) vs) {i : Nat} {k : Key} {v : Value} (h : vs[i]? = some (k, v)) : ∃ e t, L[i]? = some e ∧ k = .inr e.1 ∧ v = .str e.2 t := by
  have hl : (enc V.str L).length = vs.length := Paired.length kv
  have hi : i < vs.length := (List.getElem?_eq_some_iff.mp h).1
  obtain ⟨e, he⟩ : ∃ e, L[i]? = some e := ⟨L[i]'(by rw [enc_len] at hl; omega), List.getElem?_eq_getElem _⟩
  have h2 : (enc V.str L)[i]? = some (Sum.inr e.1, V.str e.2) := by unfold enc; rw [List.getElem?_map, he]; rfl
  obtain ⟨u, hu, ru⟩ := kv_get kv h2
  rw [h] at hu
  cases hu
  obtain ⟨t, et⟩ := (show ∃ t, v = Value.str e.2 t from ru)
  exact ⟨e, t, he, rfl, et⟩
theorem code_any {prog : Program} {w : World} {A : Around} {E : Value → Shared → Prop} {s : Shared} {env : Env} {c P : Addr} {ps : Array Value} {pos : Pos} {qn : Str} {scope : Scope} {R : Value → Shared → Prop} (hcode : env.code = .ref c) (cd : PySem.W.CodeHd s.heap c P)
    (hP : s.heap.get? P = some { cls := .none, data := .fields ps }) (ht : TriplesOk ps.toList) (k : ∀ code h3 tk ps', Heap.ExtBut P s.heap h3 → s.heap.objs.size ≤ h3.objs.size → h3.get? P = some { cls := .none, data := .fields ps' } → (∃ more, ps' = ps ++ more) → TriplesOk ps'.toList → R code { s with heap := h3, toks := tk }) :
    wpAny (model prog w) A (genexprCode env pos qn scope) R E s := by
  rcases hf : codeAmong pos ps.toList with _ | cv
  · refine wpAny_genexprCodeX hcode (cd.code hP ht) (cd.tab hP) hf ?_
    intro c' h' tk hx hge hlt hco _ htab _
    obtain ⟨_, _, _, _, _, _, _, _, _, _, _, _, _, _, _, _, _, _, _, tri, _⟩ := hco
    exact k _ h' tk _ hx (Nat.le_trans hge (Nat.le_of_lt hlt)) htab.2 ⟨_, rfl⟩ tri
  · refine wpAny_genexprCode_hit hcode (cd.code hP ht) hf ?_
    exact k cv s.heap s.toks ps (Heap.ExtBut.refl _ _) (Nat.le_refl _) hP ⟨#[], by simp⟩ ht
section
variable {X : Cx}
theorem pe_sumIt {c P : Addr} {elt e : Expr} {xa xb : Str} {pa pb pt p pos gpos apos cpos : Pos} {kt : Nat} {scope : Scope} {Pz : Str → Str → Prop} {f : Str → Str → Int} {td : TE} {k : Nat}
    (hr : Room k X.A) (hg : Gl X "sum") (hm : X.mg "sum" = none) (hb : bootBuiltins "sum" = some (.builtin "sum")) (TB : GxR.TabB X.base X.mg c P) (hcode : X.env.code = .ref c) (S : X.Ok → GenS2 X.env scope xa xb) (hd : PE X e td) (hel : EltI X.prog X.w X.base X.env scope xa xb elt Pz f)
    (hs : ∀ v, genFold (.Call (.Attribute e "items" apos) [] [] cpos) X.env v = pure v) (hbase : attributeBase e "items" X.env (eval e X.env) = eval e X.env := by rfl) (hline : (apos.endLine == cpos.line) = true := by rfl)
    (he : starEach [.GeneratorExp elt [⟨.Tuple [.Name xa pa, .Name xb pb] kt pt, .Call (.Attribute e "items" apos) [] [] cpos, [], 0⟩] scope gpos] X.env = (false, eval (.GeneratorExp elt [⟨.Tuple [.Name xa pa, .Name xb pb] kt pt, .Call (.Attribute e "items" apos) [] [] cpos, [], 0⟩] scope gpos) X.env) :: starEach [] X.env := by rfl) :
    PE X (.Call (.Name "sum" p) [.GeneratorExp elt [⟨.Tuple [.Name xa pa, .Name xb pb] kt pt, .Call (.Attribute e "items" apos) [] [] cpos, [], 0⟩] scope gpos] [] pos) (tSumIt P Pz f td) := by
  refine ⟨fun pins s σ H Q I h => ?_⟩
  have S := S I.ok
  refine wpAny_Call_Name_kw (ld_blt I hg hm hb ?_)
  refine PyProof.Rows.callWith_builtin1 ?_ he (by rfl)
  rw [he]
  refine Calls.spliced_cons ?_
  refine wpAny_GeneratorExp_walksQT hr.hd S.co (closure_ok S.free) S.cell S.dot S.la S.lb S.ab S.kind (by have := hr.dp; omega) ?_ hs
  refine wpAny_Call_method (T := "dict") (id := "dict.items") hbase rfl hline PySem.F.plainAttrs_dict PySem.F.slot_dict_items PySem.F.type_dict_items (thn (hd.run pins s σ H _ I h) ?_)
  rintro u s1 ⟨x, H1, I1, rx, d, L, rfl, hdk, hPz, ⟨ps, hP, ht⟩, fits, q⟩
  obtain rfl := (show u = Value.ref d from rx)
  obtain ⟨z, hsd, vs, kv, ob, es, ep, ho, hx, hdt, r⟩ := I1.hok d _ hdk
  have dAt : s1.heap.DictAt (mixKind X.prog X.w) d vs ep := ⟨ob, es, ho, hx, hdt, r⟩
  refine ⟨dAt.dictOf.typeIs, dAt.dictOf.mapOf.noDict, ?_⟩
  refine method_meetsIn PySem.F.slot_dict_items PySem.F.entry_dict_items rfl (PySem.evalArgs_none ⟨rfl, dAt.dictOf.typeIs, PySem.F.args_dict_items_1 _, _, meets_dict_items (mixKind X.prog X.w) d hsd, ⟨vs, dAt.dictOf⟩, ?_⟩)
  refine wpAny_pyIter_items (d := d) (knd := mixKind X.prog X.w) ⟨_, Heap.get?_push_size _ rfl, rfl, rfl⟩ (dAt.push _) ?_
  generalize ev : ({ cls := .type "dict_items", data := .fields #[.ref d] } : Obj) = view
  generalize eg : s1.heap.push view = h1
  have sz1 : h1.objs.size = s1.heap.objs.size + 1 := by rw [← eg]; exact Heap.size_push ..
  have keep1 : ∀ b o, s1.heap.get? b = some o → h1.get? b = some o := fun b o e => by rw [← eg]; exact Heap.get?_push_of_some _ e
  show (h1.push _).NoLimit ∧ _
  generalize ei : ({ cls := .type "dict_itemiterator", data := .fields #[.none, .bool false, .ref d, .int 0 0, .int vs.length 0, .int ep 0, .none, .none] } : Obj) = ito
  have itAt : IsItemIter (h1.push ito) h1.objs.size d 0 vs.length ep .none .none := by rw [← ei]; exact Heap.get?_push_size _ rfl
  have sz2 : (h1.push ito).objs.size = h1.objs.size + 1 := Heap.size_push ..
  have keep2 : ∀ b o, s1.heap.get? b = some o → (h1.push ito).get? b = some o := fun b o e => Heap.get?_push_of_some _ (keep1 b o e)
  have lim2 : (h1.push ito).NoLimit := I1.nolimit.keeps keep2
  have dAt2 : (h1.push ito).DictAt (mixKind X.prog X.w) d vs ep := dAt.at fun o z => keep2 d o z
  have dlt : d < s1.heap.objs.size := dAt.lt_size
  have ltI : s1.heap.objs.size < h1.objs.size := by rw [sz1]; exact Nat.lt_succ_self _
  have lt2 : h1.objs.size < (h1.push ito).objs.size := by rw [sz2]; exact Nat.lt_succ_self _
  generalize h1.push ito = h2 at itAt lt2 keep2 lim2 dAt2 ⊢
  have hP1 : s1.heap.get? P = some { cls := .none, data := .fields ps } := I1.hok P _ hP
  have Plt : P < s1.heap.objs.size := Heap.lt_size hP1
  have hP2 := keep2 _ _ hP1
  have cd : PySem.W.CodeHd h2 c P := TB.code.keeps fun b u e => keep2 b u (I1.bk b u e)
  refine ⟨lim2, ?_⟩
  refine code_any hcode cd hP2 ht fun code h3 tk ps' hx hsz hP3 hmore ht3 => ?_
  have sz2' : h2.objs.size ≤ h3.objs.size := hsz
  have keep3 : ∀ b u, b ≠ P → h2.get? b = some u → h3.get? b = some u := fun b u n e => hx b u n e
  obtain ⟨bm, bo, e1, e2, e3, e4, e5, e6, e7, e8⟩ := TB.bm
  refine wpAny_builtinsFor (m := X.mg) (by rw [I1.ok.glob]; exact ((I1.mod.glob.keeps I1.bk).keeps keep2).extBut hx TB.gP) e1 e2 (keep3 _ _ e4 (keep2 _ _ (I1.bk _ _ e5))) e6 e7 e8 ?_
  have cP : cStatics ≠ P := fun z => by
    obtain ⟨_, hns, _⟩ := I1.nolimit
    obtain ⟨o', es', ep', ho', hd', _⟩ := hns
    rw [z, hP1] at ho'
    cases ho'
    cases hd'
  have clt : cStatics < s1.heap.objs.size := let ⟨_, hns, _⟩ := I1.nolimit; hns.lt
  have dP : d ≠ P := ne_of hdk hP (by intro y; cases y)
  have IP : h1.objs.size ≠ P := Nat.ne_of_gt (Nat.lt_trans Plt ltI)
  have dI : d ≠ h1.objs.size := Nat.ne_of_lt (Nat.lt_trans dlt ltI)
  have hlen : vs.length = L.length := by
    have := Paired.length kv
    rw [enc_len] at this
    omega
  refine ⟨h1.objs.size, [h1.objs.size, d], [h1.objs.size], vs.length, _, _, _, fun _ => true, fun i y => ∃ e t, L[i]? = some e ∧ y = .int (f e.1 e.2) t, rfl, fun A' hA => walksU_items hA _ d dI vs ep, fun i vals hv => ?_, ⟨⟨_, _, keep3 _ _ IP itAt⟩, dAt2.at fun o y => keep3 _ _ dP y⟩, fun b hb => ?_, lim2.extBut hx cP, ?_, fun href hhref => ?_, fun g h5 tk5 gs hgb hag hsz5 hk5 W5 hgat => ?_⟩
  · obtain ⟨k, v, key, _, _, rfl⟩ := hv
    exact ⟨_, _, rfl⟩
  · show b < h3.objs.size
    rcases List.mem_cons.mp hb with y | y
    · rw [y]; exact Nat.lt_of_lt_of_le lt2 sz2'
    · rw [List.mem_singleton.mp y]; exact Nat.lt_of_lt_of_le dAt2.lt_size sz2'
  · intro y
    exact Nat.ne_of_lt (Nat.lt_trans clt ltI) (List.mem_singleton.mp y)
  · refine ⟨fun A' E' i va vb s₂ m₂ hA hPv hn hma hmb hk => ?_, fun A' E' i va vb s₂ m₂ hA hPv hp hn hma hmb hk => ?_⟩
    · simp only [List.forIn_nil]
      exact wpAny_pure ⟨rfl, GxR.keeps_refl _⟩
    · obtain ⟨k', v', key, hkv, hkey, evs⟩ := hPv
      obtain ⟨e0, t0, he0, rfl, rfl⟩ := kv_str kv hkv
      cases evs
      rcases keyIs_shape (show keyIs (Sum.inr e0.1) va = true from hkey) with ⟨i0, t1, z1, _⟩ | ⟨x0, t1, z1, rfl⟩
      · cases z1
      · cases z1
        have base2 : ∀ b o, X.base.get? b = some o → s₂.heap.get? b = some o := fun b o e => by
          have b1 := I1.bk b o e
          have lb := Heap.lt_size b1
          have nP : b ≠ P := fun y => by
            have := (I1.bs b o e).2
            rw [y, hP] at this
            cases this
          have b3 := keep3 b o nP (keep2 b o b1)
          exact hk b (List.mem_range.mpr (Heap.lt_size b3)) (fun y => Nat.ne_of_lt (Nat.lt_trans lb ltI) (List.mem_singleton.mp y)) o (hhref b o b3)
        refine wpAny_mono (hel _ _ _ A' E' _ _ _ _ s₂ m₂ (hPz _ (List.mem_of_getElem? he0)) base2 hn hma hmb) (fun y s3 rr => ?_) fun _ _ e => e
        obtain ⟨⟨t', et⟩, kp⟩ := rr
        exact ⟨⟨e0, t', he0, et⟩, kp⟩
  · refine Calls.spliced_nil ?_
    simp only [GxR.passing_true, List.length_range] at W5
    refine call_sum_walkS (W5.in4_1.self 0 _ _ _ hgat ⟨g, _, _, _, _, _, _, valAt f L, rfl, W5.in4_1, hgat, fun b hb => ?_, fun i y hy => ?_, fun j hj => ?_, fun s' t' hmv => ?_⟩)
    · show b < h5.objs.size
      rw [show h5.objs.size = g + 1 from hsz5]
      have hag' : h3.objs.size < g := hag
      rcases List.mem_cons.mp hb with y | y
      · rw [y]; exact Nat.lt_succ_self _
      · rcases List.mem_cons.mp y with y | y
        · rw [y]; exact Nat.lt_succ_of_lt hag'
        · exact Nat.lt_succ_of_lt (Nat.lt_trans (List.mem_range.mp y) hag')
    · obtain ⟨i2, hi2, e0, t0, he0, rfl⟩ := hy
      obtain ⟨hj2, ej⟩ := List.getElem?_eq_some_iff.mp hi2
      rw [List.getElem_range] at ej
      subst ej
      exact ⟨t0, by unfold valAt; rw [he0]⟩
    · rw [hlen] at hj
      exact fits j hj
    · obtain ⟨more, em⟩ := hmore
      have lt3 : h1.objs.size < h3.objs.size := Nat.lt_of_lt_of_le lt2 sz2'
      have out : ∀ b u, s1.heap.get? b = some u → b ∉ h3.objs.size :: [h1.objs.size] := fun b u e m => by
        have lb := Heap.lt_size e
        rcases List.mem_cons.mp m with y | y
        · exact Nat.ne_of_lt (Nat.lt_trans (Nat.lt_trans lb ltI) lt3) y
        · exact Nat.ne_of_lt (Nat.lt_trans lb ltI) (List.mem_singleton.mp y)
      have J := GxR.inv_tab (more := more) (h' := s'.heap) (g' := s'.gens) (d' := s'.drawn) (t' := s'.toks) I1 hP (fun b u hb e => hmv.heap b u (out b u e) (hk5 b u (keep3 b u hb (keep2 b u e))))
        (by rw [← em]; exact hmv.heap P _ (out P _ hP1) (hk5 P _ hP3)) (AllBare.movedS (I1.bare.push hgb) hmv)
      rw [GxR.sh_eta s1 s' hmv.os] at J
      refine ⟨.int _, _, J, ⟨t', rfl⟩, ?_⟩
      rw [hlen]
      exact q _ ⟨⟨ps ++ more, upd_same, by rw [← em]; exact ht3⟩, fun b hb => upd_ne hb⟩
end
section
variable {prog : Program} {w : World} {A : Around} {E : Value → Shared → Prop} {s : Shared} {cenv : Env} {x a : Str} {t : Tok} {m mg mb : Str → Option Value} {Q : Value → Shared → Prop} {p1 p2 p3 : Pos}
/-- len(x), x a name that holds a text -/
theorem ev_len (hk : cenv.scope.kind = .function) (hgl : cenv.kindOf "len" = some .globalImplicit) (hg : s.heap.Ns cenv.globals mg) (hmiss : mg "len" = none) (hb : s.heap.Ns cenv.builtins mb) (hlen : mb "len" = some (.builtin "len")) (hl : cenv.scope.names.lookup x = some .local)
    (hn : s.heap.Ns cenv.locals m) (hm : m x = some (.str a t)) (hd : (x == ("__debug__" : Str)) = false) (few : a.length ≤ sizeLine) (k : ∀ t' n, Q (.int a.length t') { s with toks := n }) : wpAny (model prog w) A (eval (.Call (.Name "len" p1) [.Name x p2] [] p3) cenv) Q E s := by
  refine wpAny_Call_Name_kw (Calls.Name_function_global hk hgl (Calls.loadGlobal_builtin hg hmiss hb hlen ?_))
  refine PyProof.Rows.callWith_builtin1 ?_ rfl rfl
  show wpAny _ _ (spliced ((false, eval (.Name x p2) cenv) :: backTo p3 (starEach [] cenv))) _ _ s
  refine Calls.spliced_cons (wpAny_Name (wpAny_loadName_local hk hl hn hm ?_) hd)
  refine Calls.spliced_nil ?_
  rw [sizeLine_eq] at few
  exact len_str (by omega) (k _ _)
end
theorem elt_len2 {prog : Program} {w : World} {K : PySem.W.Frag} {mg : Str → Option Value} {base : Heap} {env : Env} {scope : Scope} {xa xb : Str} {p1 p2 p3 p4 p5 p6 p7 : Pos} (M : Mod K mg base) (hmiss : mg "len" = none) (hglob : env.globals = mainGlobals) (hk : scope.kind = .function) (hgl : scope.names.lookup ("len" : Str) = some .globalImplicit)
    (la : scope.names.lookup xa = some .local) (lb : scope.names.lookup xb = some .local) (da : (xa == ("__debug__" : Str)) = false) (db : (xb == ("__debug__" : Str)) = false) :
    EltI prog w base env scope xa xb (.BinOp (.Call (.Name "len" p1) [.Name xa p2] [] p3) .Add (.Call (.Name "len" p4) [.Name xb p5] [] p6) p7) (fun a b => a.length ≤ sizeLine ∧ b.length ≤ sizeLine) (fun a b => (a.length : Int) + b.length) := by
  intro cl L code A' E' ka va ta tv s₂ m₂ hz kb hn hma hmb
  obtain ⟨mb, hb, hbb⟩ := M.blt
  have hlen : mb "len" = some (.builtin "len") := by rw [hbb "len" (by decide +kernel)]; decide +kernel
  have gl : s₂.heap.Ns (genEnv scope cl L code builtinsNs env).globals mg := by
    show s₂.heap.Ns env.globals mg
    rw [hglob]
    exact M.glob.keeps kb
  have bl : s₂.heap.Ns (genEnv scope cl L code builtinsNs env).builtins mb := hb.keeps kb
  refine wpAny_BinOp ?_
  refine ev_len hk hgl gl hmiss bl hlen la hn hma da hz.1 fun t1 n1 => ?_
  refine ev_len hk hgl gl hmiss bl hlen lb hn hmb db hz.2 fun t2 n2 => ?_
  exact PyProof.Rows.add_int ⟨⟨_, rfl⟩, GxR.keeps_tok _ _⟩
end Pr

/-! values with all that stands within them; a store of what changes; readings over these -/
namespace Dn
open PySem PySem.Spec PyProof.Rows L2 Pr
inductive Dt where
  | non | bl (b : Bool) | int (i : Int) | str (z : Str) | ref (a : Addr) | ty (n : String)
  | tup (l : List Dt) | lst (l : List Dt) | dic (l : List (Key × Dt))
  /-- an instance that stands still: its class, the names of its attributes in the order of their making, the values of the first of them -/
  | obj (C : Addr) (nm : List Str) (l : List Dt)
  /-- the script -/
  | scr (ns : List Int)
  /-- a lambda, kept -/
  | lam (F : NdefX.NF) (b : Expr)
/-- what stands at an address that may change -/
inductive Cell where
  | lst (l : List Dt) | dic (l : List (Key × Dt)) | dct (l : List (List Key × Dt)) | lck (o : HO) (l : List (Key × Dt))
  | ins (C : Addr) (nm : List Str) (l : List Dt)
  /-- the table of codes of a def, for lambdas and generators of this name -/
  | tbl (q : Str)
abbrev Store := Addr → Option Cell
abbrev DS := List (Option Dt)
abbrev DK := Dt → Store → Prop
abbrev DX := Addr → Store → Prop
/-- a text that the machine can hold -/
structure SOk (z : Str) : Prop where
  len : z.length ≤ sizeLine
  ok : PySem.PyData.strOk z = true
def KOk : Key → Prop
  | .inl _ => True
  | .inr z => SOk z
section
variable (K : PySem.W.Frag) (G : Hp)
mutual
def Rep : Dt → V → Prop
  | .non, v => v = .non
  | .bl b, v => v = .bl b
  | .int i, v => v = .int i
  | .str z, v => v = .str z ∧ SOk z
  | .ref a, v => v = .ref a
  | .ty n, v => v = .ty n
  | .tup l, v => ∃ a vs, v = .ref a ∧ SqT K G a vs ∧ Reps l vs
  | .lst l, v => ∃ a vs, v = .ref a ∧ G a = some (.lst vs) ∧ Reps l vs
  | .dic l, v => ∃ a kvs, v = .ref a ∧ Rd G a (.dK kvs) ∧ Repk l kvs
  | .obj C nm l, v => ∃ a dx vs, v = .ref a ∧ G a = some (.ins C dx ((nm.take l.length).zip vs)) ∧ Reps l vs ∧ l.length ≤ nm.length
  | .scr ns, v => ∃ a, v = .ref a ∧ SqL K G a (ns.map V.int)
  | .lam F b, v => ∃ f, v = .ref f ∧ G f = some (LmO f F b) ∧ G F.c = some (LamX.CodeO F.c F.qual)
def Reps : List Dt → List V → Prop
  | [], vs => vs = []
  | d :: l, vs => ∃ v r, vs = v :: r ∧ Rep d v ∧ Reps l r
def Repk : List (Key × Dt) → List (Key × V) → Prop
  | [], kvs => kvs = []
  | (k, d) :: l, kvs => ∃ v r, kvs = (k, v) :: r ∧ (KOk k ∧ Rep d v) ∧ Repk l r
end
def Rept : List (List Key × Dt) → List (List Key × V) → Prop
  | [], kvs => kvs = []
  | (k, d) :: l, kvs => ∃ v r, kvs = (k, v) :: r ∧ ((∀ x ∈ k, KOk x) ∧ Rep K G d v) ∧ Rept l r
def CRep : Cell → HO → Prop
  | .lst l, o => ∃ vs, o = .lst vs ∧ Reps K G l vs
  | .dic l, o => ∃ kvs, o = .dK kvs ∧ Repk K G l kvs
  | .dct l, o => ∃ kvs, o = .dT kvs ∧ Rept K G l kvs
  | .lck u l, o => o = u ∧ ∃ ob kvs, o = .frz ob (.dK kvs) ∧ Repk K G l kvs
  | .ins C nm l, o => ∃ dx vs, o = .ins C dx ((nm.take l.length).zip vs) ∧ Reps K G l vs ∧ l.length ≤ nm.length
  | .tbl q, o => ∃ ps : Array Value, o = .tbl ps ∧ TriplesOk ps.toList ∧ ∀ (pos : Pos) (cv : Value), codeAmong pos ps.toList = some cv → ∃ c, cv = .ref c ∧ G c = some (LamX.CodeO c q)
end
/-- a dict, walked or not -/
def IsDk (o : HO) (kvs : List (Key × V)) : Prop := o = .dK kvs ∨ ∃ ob, o = .frz ob (.dK kvs)
/-- all that G holds G' holds; a dict may be walked in the one and not in the other -/
def Alt (o o' : HO) : Prop := o = o' ∨ ∃ kvs, IsDk o kvs ∧ IsDk o' kvs
def IsTb (o : HO) : Prop := ∃ ps, o = .tbl ps
/-- of tables that stand aside nothing is told -/
def Ext (G G' : Hp) : Prop := ∀ b o, G b = some o → ¬ IsTb o → ∃ o', G' b = some o' ∧ Alt o o'
theorem IsDk.uniq {o : HO} {k1 k2 : List (Key × V)} (a : IsDk o k1) (b : IsDk o k2) : k1 = k2 := by
  rcases a with rfl | ⟨ob, rfl⟩ <;> rcases b with h | ⟨ob2, h⟩ <;> cases h <;> rfl
theorem Alt.trans {o o1 o2 : HO} (a : Alt o o1) (b : Alt o1 o2) : Alt o o2 := by
  rcases a with rfl | ⟨k1, x1, y1⟩
  · exact b
  · rcases b with rfl | ⟨k2, x2, y2⟩
    · exact .inr ⟨k1, x1, y1⟩
    · have := y1.uniq x2
      subst this
      exact .inr ⟨k1, x1, y2⟩
/-- what is neither a dict nor a table -/
def Still : HO → Prop
  | .dK _ => False
  | .frz _ (.dK _) => False
  | .tbl _ => False
  | _ => True
theorem Alt.still {o o' : HO} (a : Alt o o') (h : Still o) : o' = o := by
  rcases a with rfl | ⟨k, x, y⟩
  · rfl
  · rcases x with rfl | ⟨ob, rfl⟩ <;> exact h.elim
theorem Alt.noTb {o o' : HO} (a : Alt o o') (h : ¬ IsTb o) : ¬ IsTb o' := by
  rcases a with rfl | ⟨k, x, y⟩
  · exact h
  · rintro ⟨ps, rfl⟩
    rcases y with y | ⟨_, y⟩ <;> cases y
theorem Ext.refl {G : Hp} : Ext G G := fun _ o h _ => ⟨o, h, .inl rfl⟩
theorem Ext.trans {G G1 G2 : Hp} (a : Ext G G1) (b : Ext G1 G2) : Ext G G2 := fun c o h n => by
  obtain ⟨o1, h1, e1⟩ := a c o h n
  obtain ⟨o2, h2, e2⟩ := b c o1 h1 (e1.noTb n)
  exact ⟨o2, h2, e1.trans e2⟩
theorem Ext.of {G G' : Hp} (h : ∀ b o, G b = some o → G' b = some o) : Ext G G' := fun b o e _ => ⟨o, h b o e, .inl rfl⟩
theorem Still.noTb {o : HO} (s : Still o) : ¬ IsTb o := by
  rintro ⟨ps, rfl⟩
  exact s
theorem Ext.still {G G' : Hp} {a : Addr} {o : HO} (e : Ext G G') (h : G a = some o) (s : Still o) : G' a = some o := by
  obtain ⟨o', h', z⟩ := e a _ h s.noTb
  rw [h', z.still s]
theorem Ext.lst {G G' : Hp} {a : Addr} {vs : List V} (e : Ext G G') (h : G a = some (.lst vs)) : G' a = some (.lst vs) := e.still h trivial
theorem Ext.ins {G G' : Hp} {a C dx : Addr} {fs : List (Str × V)} (e : Ext G G') (h : G a = some (.ins C dx fs)) : G' a = some (.ins C dx fs) := e.still h trivial
theorem Ext.tup {K : PySem.W.Frag} {G G' : Hp} {a : Addr} {vs : List V} (e : Ext G G') (h : SqT K G a vs) : SqT K G' a vs := by
  rcases h with (h | ⟨ob, h⟩) | h
  · exact .inl (.inl (e.still h trivial))
  · exact .inl (.inr ⟨ob, e.still h trivial⟩)
  · exact .inr h
theorem Ext.scr {K : PySem.W.Frag} {G G' : Hp} {a : Addr} {vs : List V} (e : Ext G G') (h : SqL K G a vs) : SqL K G' a vs := by
  rcases h with (h | ⟨ob, h⟩) | h
  · exact .inl (.inl (e.still h trivial))
  · exact .inl (.inr ⟨ob, e.still h trivial⟩)
  · exact .inr h
theorem Ext.dic {G G' : Hp} {a : Addr} {kvs : List (Key × V)} (e : Ext G G') (h : Rd G a (.dK kvs)) : Rd G' a (.dK kvs) := by
  have fin : ∀ o, G a = some o → IsDk o kvs → Rd G' a (.dK kvs) := fun o h q => by
    obtain ⟨o', h', z⟩ := e a _ h (by
      rintro ⟨ps, rfl⟩
      rcases q with h | ⟨_, h⟩ <;> cases h)
    have : IsDk o' kvs := by
      rcases z with rfl | ⟨k, x, y⟩
      · exact q
      · have := x.uniq q
        subst this
        exact y
    rcases this with rfl | ⟨ob, rfl⟩
    · exact .inl h'
    · exact .inr ⟨ob, h'⟩
  rcases h with h | ⟨ob, h⟩
  · exact fin _ h (.inl rfl)
  · exact fin _ h (.inr ⟨ob, rfl⟩)
section
variable {K : PySem.W.Frag} {G G' : Hp}
mutual
theorem Rep.ext (e : Ext G G') : ∀ (d : Dt) (v : V), Rep K G d v → Rep K G' d v
  | .non, _, h | .bl _, _, h | .int _, _, h | .str _, _, h | .ref _, _, h | .ty _, _, h => h
  | .tup l, v, ⟨a, vs, h1, h2, h3⟩ => ⟨a, vs, h1, e.tup h2, Reps.ext e l vs h3⟩
  | .lst l, v, ⟨a, vs, h1, h2, h3⟩ => ⟨a, vs, h1, e.lst h2, Reps.ext e l vs h3⟩
  | .dic l, v, ⟨a, vs, h1, h2, h3⟩ => ⟨a, vs, h1, e.dic h2, Repk.ext e l vs h3⟩
  | .obj C nm l, v, ⟨a, dx, vs, h1, h2, h3, h4⟩ => ⟨a, dx, vs, h1, e.ins h2, Reps.ext e l vs h3, h4⟩
  | .scr ns, v, ⟨a, h1, h2⟩ => ⟨a, h1, e.scr h2⟩
  | .lam F b, v, ⟨f, h1, h2, h3⟩ => ⟨f, h1, e.still h2 trivial, e.still h3 trivial⟩
theorem Reps.ext (e : Ext G G') : ∀ (l : List Dt) (vs : List V), Reps K G l vs → Reps K G' l vs
  | [], _, h => h
  | d :: l, vs, ⟨v, r, h1, h2, h3⟩ => ⟨v, r, h1, Rep.ext e d v h2, Reps.ext e l r h3⟩
theorem Repk.ext (e : Ext G G') : ∀ (l : List (Key × Dt)) (vs : List (Key × V)), Repk K G l vs → Repk K G' l vs
  | [], _, h => h
  | (k, d) :: l, vs, ⟨v, r, h1, h2, h3⟩ => ⟨v, r, h1, ⟨h2.1, Rep.ext e d v h2.2⟩, Repk.ext e l r h3⟩
end
theorem Rept.ext (e : Ext G G') : ∀ (l : List (List Key × Dt)) (vs : List (List Key × V)), Rept K G l vs → Rept K G' l vs
  | [], _, h => h
  | (k, d) :: l, vs, ⟨v, r, h1, h2, h3⟩ => ⟨v, r, h1, ⟨h2.1, Rep.ext e d v h2.2⟩, Rept.ext e l r h3⟩
theorem CRep.ext (e : Ext G G') (c : Cell) (o : HO) (h : CRep K G c o) : CRep K G' c o := by
  cases c with
  | lst l => obtain ⟨vs, h1, h2⟩ := h; exact ⟨vs, h1, Reps.ext e _ _ h2⟩
  | dic l => obtain ⟨vs, h1, h2⟩ := h; exact ⟨vs, h1, Repk.ext e _ _ h2⟩
  | dct l => obtain ⟨vs, h1, h2⟩ := h; exact ⟨vs, h1, Rept.ext e _ _ h2⟩
  | lck u l => obtain ⟨h0, ob, vs, h1, h2⟩ := h; exact ⟨h0, ob, vs, h1, Repk.ext e _ _ h2⟩
  | ins C nm l => obtain ⟨dx, vs, h1, h2, h3⟩ := h; exact ⟨dx, vs, h1, Reps.ext e _ _ h2, h3⟩
  | tbl q =>
    obtain ⟨ps, h1, h2, h3⟩ := h
    refine ⟨ps, h1, h2, fun pos cv hc => ?_⟩
    obtain ⟨c, e1, e2⟩ := h3 pos cv hc
    exact ⟨c, e1, e.still e2 trivial⟩
theorem Reps.pair : ∀ {l : List Dt} {vs : List V}, Reps K G l vs ↔ Paired (Rep K G) l vs
  | [], vs => ⟨fun h => by rw [show vs = [] from h]; exact .nil, fun h => by cases h; exact rfl⟩
  | d :: l, vs => ⟨fun ⟨v, r, e, h1, h2⟩ => by rw [e]; exact .cons h1 (Reps.pair.mp h2), fun h => by
    cases h with
    | cons h1 h2 => exact ⟨_, _, rfl, h1, Reps.pair.mpr h2⟩⟩
theorem Reps.len {l : List Dt} {vs : List V} (h : Reps K G l vs) : l.length = vs.length := Paired.length (Reps.pair.mp h)
theorem Repk.pair : ∀ {l : List (Key × Dt)} {vs : List (Key × V)}, Repk K G l vs ↔ Paired (fun p q => p.1 = q.1 ∧ (KOk p.1 ∧ Rep K G p.2 q.2)) l vs
  | [], vs => ⟨fun h => by rw [show vs = [] from h]; exact .nil, fun h => by cases h; exact rfl⟩
  | (k, d) :: l, vs => ⟨fun ⟨v, r, e, h1, h2⟩ => by rw [e]; exact .cons ⟨rfl, h1⟩ (Repk.pair.mp h2), fun h => by
    cases h with
    | @cons _ q _ r h1 h2 =>
      obtain ⟨q1, q2⟩ := q
      obtain ⟨e, h1⟩ := h1
      cases e
      exact ⟨_, _, rfl, h1, Repk.pair.mpr h2⟩⟩
theorem Rept.pair : ∀ {l : List (List Key × Dt)} {vs : List (List Key × V)}, Rept K G l vs ↔ Paired (fun p q => p.1 = q.1 ∧ ((∀ x ∈ p.1, KOk x) ∧ Rep K G p.2 q.2)) l vs
  | [], vs => ⟨fun h => by rw [show vs = [] from h]; exact .nil, fun h => by cases h; exact rfl⟩
  | (k, d) :: l, vs => ⟨fun ⟨v, r, e, h1, h2⟩ => by rw [e]; exact .cons ⟨rfl, h1⟩ (Rept.pair.mp h2), fun h => by
    cases h with
    | @cons _ q _ r h1 h2 =>
      obtain ⟨q1, q2⟩ := q
      obtain ⟨e, h1⟩ := h1
      cases e
      exact ⟨_, _, rfl, h1, Rept.pair.mpr h2⟩⟩
end
section
variable {α β : Type} {F : α → β → Prop}
theorem Paired.get : ∀ {l : List α} {m : List β} {i : Nat} {x : α}, Paired F l m → l[i]? = some x → ∃ y, m[i]? = some y ∧ F x y
  | _, _, i, x, .nil, h => by simp at h
  | _, _, 0, x, .cons r t, h => by simp at h; subst h; exact ⟨_, rfl, r⟩
  | _, _, i + 1, x, .cons r t, h => by
    obtain ⟨y, h1, h2⟩ := Paired.get (i := i) t (by simpa using h)
    exact ⟨y, by simpa using h1, h2⟩
theorem Paired.get' : ∀ {l : List α} {m : List β} {i : Nat} {y : β}, Paired F l m → m[i]? = some y → ∃ x, l[i]? = some x ∧ F x y
  | _, _, i, x, .nil, h => by simp at h
  | _, _, 0, x, .cons r t, h => by simp at h; subst h; exact ⟨_, rfl, r⟩
  | _, _, i + 1, x, .cons r t, h => by
    obtain ⟨y, h1, h2⟩ := Paired.get' (i := i) t (by simpa using h)
    exact ⟨y, by simpa using h1, h2⟩
theorem Paired.app : ∀ {l l' : List α} {m m' : List β}, Paired F l m → Paired F l' m' → Paired F (l ++ l') (m ++ m')
  | _, _, _, _, .nil, h => h
  | _, _, _, _, .cons r t, h => .cons r (Paired.app t h)
theorem Paired.setp {x : α} {y : β} (r : F x y) : ∀ {l : List α} {m : List β} (i : Nat), Paired F l m → Paired F (l.set i x) (m.set i y)
  | _, _, _, .nil => .nil
  | _, _, 0, .cons _ t => .cons r t
  | _, _, i + 1, .cons q t => .cons q (Paired.setp r i t)
theorem Paired.drop : ∀ {l : List α} {m : List β} (n : Nat), Paired F l m → Paired F (l.drop n) (m.drop n)
  | _, _, 0, h => h
  | _, _, _ + 1, .nil => .nil
  | _, _, n + 1, .cons _ t => Paired.drop n t
theorem Paired.take : ∀ {l : List α} {m : List β} (n : Nat), Paired F l m → Paired F (l.take n) (m.take n)
  | _, _, 0, _ => .nil
  | _, _, _ + 1, .nil => .nil
  | _, _, n + 1, .cons r t => .cons r (Paired.take n t)
theorem Paired.rev : ∀ {l : List α} {m : List β}, Paired F l m → Paired F l.reverse m.reverse
  | _, _, .nil => .nil
  | _, _, .cons r t => by rw [List.reverse_cons, List.reverse_cons]; exact Paired.app (Paired.rev t) (.cons r .nil)
end
/-! ## the heap beside the store -/
/-- what stands still: all but the store's and what is hidden -/
def out (H : Hp) (S : Store) (Z : Hp) : Hp := fun b => if (S b).isSome = true ∨ (Z b).isSome = true then none else H b
def sput (S : Store) (a : Addr) (c : Cell) : Store := fun b => if b = a then some c else S b
def sdel (S : Store) (a : Addr) : Store := fun b => if b = a then none else S b
theorem sput_same {S : Store} {a : Addr} {c : Cell} : sput S a c a = some c := by unfold sput; rw [if_pos rfl]
theorem sput_ne {S : Store} {a b : Addr} {c : Cell} (h : b ≠ a) : sput S a c b = S b := by unfold sput; rw [if_neg h]
theorem sdel_same {S : Store} {a : Addr} : sdel S a a = none := by unfold sdel; rw [if_pos rfl]
theorem sdel_ne {S : Store} {a b : Addr} (h : b ≠ a) : sdel S a b = S b := by unfold sdel; rw [if_neg h]
theorem sput_sput {S : Store} {a : Addr} {c d : Cell} : sput (sput S a c) a d = sput S a d := by
  funext b; unfold sput; split <;> rfl
/-- what is hidden: lists, dicts under way -/
def Hid (o : HO) : Prop := (∃ vs, o = .lst vs) ∨ ∃ kvs, o = .dK kvs
structure Good (K : PySem.W.Frag) (Z H : Hp) (S : Store) : Prop where
  z : ∀ b o, Z b = some o → H b = some o ∧ S b = none ∧ Hid o
  c : ∀ a x, S a = some x → ∃ o, H a = some o ∧ CRep K (out H S Z) x o
section
variable {K : PySem.W.Frag} {Z H H' : Hp} {S S' : Store} {a p : Addr} {o : HO}
theorem out_some {b : Addr} (h : out H S Z b = some o) : S b = none ∧ Z b = none ∧ H b = some o := by
  unfold out at h
  split at h
  · cases h
  · rename_i n
    refine ⟨?_, ?_, h⟩
    · cases e : S b with
      | none => rfl
      | some x => exact absurd (.inl (by rw [e]; rfl)) n
    · cases e : Z b with
      | none => rfl
      | some x => exact absurd (.inr (by rw [e]; rfl)) n
theorem out_of {b : Addr} (h1 : S b = none) (h2 : Z b = none) : out H S Z b = H b := by
  unfold out
  rw [if_neg]
  rintro (h | h)
  · rw [h1] at h; cases h
  · rw [h2] at h; cases h
theorem Good.nS (g : Good K Z H S) (n : H p = none) : S p = none := by
  cases e : S p with
  | none => rfl
  | some x => obtain ⟨o, h, _⟩ := g.c p x e; rw [n] at h; cases h
theorem Good.nZ (g : Good K Z H S) (n : H p = none) : Z p = none := by
  cases e : Z p with
  | none => rfl
  | some x => have := (g.z p x e).1; rw [n] at this; cases this
/-- a new thing that stands still -/
theorem ext_new (g : Good K Z H S) (n : H p = none) : Ext (out H S Z) (out (upd H p o) S Z) := Ext.of fun b o' h => by
  obtain ⟨h1, h2, h3⟩ := out_some h
  rw [out_of h1 h2, upd_ne (ne_of_none h3 n)]
  exact h3
theorem Good.new (g : Good K Z H S) (n : H p = none) : Good K Z (upd H p o) S := by
  have e := ext_new (o := o) g n
  refine ⟨fun b o' h => ⟨(upd_ne (ne_of_none (g.z b o' h).1 n)).trans (g.z b o' h).1, (g.z b o' h).2⟩, fun b x h => ?_⟩
  obtain ⟨o', h1, h2⟩ := g.c b x h
  exact ⟨o', (upd_ne (ne_of_none h1 n)).trans h1, CRep.ext e _ _ h2⟩
theorem out_new (g : Good K Z H S) (n : H p = none) : out (upd H p o) S Z p = some o := by
  rw [out_of (g.nS n) (g.nZ n), upd_same]
/-- a new cell -/
theorem out_own (g : Good K Z H S) (n : H p = none) {c : Cell} : out (upd H p o) (sput S p c) Z = out H S Z := by
  funext b
  by_cases hb : b = p
  · subst hb
    have e1 : out (upd H b o) (sput S b c) Z b = none := by
      unfold out
      rw [if_pos]
      rw [sput_same]; exact .inl rfl
    rw [e1, out_of (g.nS n) (g.nZ n), n]
  · unfold out
    rw [sput_ne hb, upd_ne hb]
theorem Good.own (g : Good K Z H S) (n : H p = none) {c : Cell} (h : CRep K (out H S Z) c o) : Good K Z (upd H p o) (sput S p c) := by
  refine ⟨fun b o' e => ?_, fun b x e => ?_⟩
  · have hb := ne_of_none (g.z b o' e).1 n
    rw [upd_ne hb, sput_ne hb]
    exact g.z b o' e
  · rw [out_own g n]
    by_cases hb : b = p
    · subst hb
      rw [sput_same] at e
      cases e
      exact ⟨o, upd_same, h⟩
    · rw [sput_ne hb] at e
      rw [upd_ne hb]
      exact g.c b x e
/-- a cell changes -/
theorem out_mut {c c' : Cell} (h : S a = some c) : out (upd H a o) (sput S a c') Z = out H S Z := by
  funext b
  by_cases hb : b = a
  · subst hb
    unfold out
    rw [if_pos (.inl (by rw [sput_same]; rfl)), if_pos (.inl (by rw [h]; rfl))]
  · unfold out
    rw [sput_ne hb, upd_ne hb]
theorem Good.mut (g : Good K Z H S) {c c' : Cell} (h : S a = some c) (r : CRep K (out H S Z) c' o) : Good K Z (upd H a o) (sput S a c') := by
  refine ⟨fun b o' e => ?_, fun b x e => ?_⟩
  · have hb : b ≠ a := fun z => by
      have := (g.z b o' e).2.1
      rw [z, h] at this
      cases this
    rw [upd_ne hb, sput_ne hb]
    exact g.z b o' e
  · rw [out_mut h]
    by_cases hb : b = a
    · subst hb
      rw [sput_same] at e
      cases e
      exact ⟨o, upd_same, r⟩
    · rw [sput_ne hb] at e
      rw [upd_ne hb]
      exact g.c b x e
/-- a cell stands still from now on -/
theorem ext_del : Ext (out H S Z) (out H (sdel S a) Z) := Ext.of fun b o h => by
  obtain ⟨h1, h2, h3⟩ := out_some h
  have : sdel S a b = none := by
    by_cases hb : b = a
    · rw [hb, sdel_same]
    · rw [sdel_ne hb, h1]
  rw [out_of this h2]
  exact h3
theorem Good.del (g : Good K Z H S) : Good K Z H (sdel S a) := by
  refine ⟨fun b o' e => ?_, fun b x e => ?_⟩
  · refine ⟨(g.z b o' e).1, ?_, (g.z b o' e).2.2⟩
    by_cases hb : b = a
    · rw [hb, sdel_same]
    · rw [sdel_ne hb]; exact (g.z b o' e).2.1
  · by_cases hb : b = a
    · rw [hb, sdel_same] at e; cases e
    · rw [sdel_ne hb] at e
      obtain ⟨o', h1, h2⟩ := g.c b x e
      exact ⟨o', h1, CRep.ext ext_del _ _ h2⟩
theorem out_del (g : Good K Z H S) {c : Cell} (h : S a = some c) : out H (sdel S a) Z a = H a := by
  refine out_of sdel_same ?_
  cases e : Z a with
  | none => rfl
  | some x => have := (g.z a x e).2.1; rw [h] at this; cases this
theorem out_le {b : Addr} (h : out H S Z b = some o) : H b = some o := (out_some h).2.2
end
/-! ## slots -/
@[reducible] def look : DS → Nat → Option Dt
  | [], _ => none
  | x :: _, 0 => x
  | _ :: l, n + 1 => look l n
@[reducible] def putS : DS → Nat → Dt → DS
  | [], _, _ => []
  | _ :: l, 0, d => some d :: l
  | x :: l, n + 1, d => x :: putS l n d
@[reducible] def wipeS : DS → Nat → DS
  | [], _ => []
  | _ :: l, 0 => none :: l
  | x :: l, n + 1 => x :: wipeS l n
def SltR (K : PySem.W.Frag) (G : Hp) (v : Option V) (d : Option Dt) : Prop := ∀ x, d = some x → ∃ u, v = some u ∧ Rep K G x u
def Slots (K : PySem.W.Frag) (G : Hp) (σ : L2.St) (δ : DS) : Prop := Paired (SltR K G) σ δ
section
variable {K : PySem.W.Frag} {G G' : Hp} {σ : L2.St} {δ : DS}
theorem Slots.ext (h : Slots K G σ δ) (e : Ext G G') : Slots K G' σ δ := Paired.mapP h fun v d q x hx => by
  obtain ⟨u, h1, h2⟩ := q x hx
  exact ⟨u, h1, Rep.ext e _ _ h2⟩
theorem look_get : ∀ {δ : DS} {i : Nat} {d : Dt}, look δ i = some d → δ[i]? = some (some d)
  | [], _, _, h => by simp [look] at h
  | x :: _, 0, d, h => by simp [look] at h; simp [h]
  | _ :: l, n + 1, d, h => by
    have : l[n]? = some (some d) := look_get (by simpa [look] using h)
    simpa using this
theorem Slots.look (h : Slots K G σ δ) {i : Nat} {d : Dt} (e : look δ i = some d) : ∃ v, σ[i]? = some (some v) ∧ Rep K G d v := by
  obtain ⟨v, h1, h2⟩ := Paired.get' h (look_get e)
  obtain ⟨u, h3, h4⟩ := h2 d rfl
  exact ⟨u, by rw [h1, h3], h4⟩
theorem putS_set : ∀ (δ : DS) (i : Nat) (d : Dt), putS δ i d = δ.set i (some d)
  | [], _, _ => rfl
  | _ :: _, 0, _ => rfl
  | x :: l, n + 1, d => by show x :: putS l n d = x :: l.set n (some d); rw [putS_set]
theorem wipeS_set : ∀ (δ : DS) (i : Nat), wipeS δ i = δ.set i none
  | [], _ => rfl
  | _ :: _, 0 => rfl
  | x :: l, n + 1 => by show x :: wipeS l n = x :: l.set n none; rw [wipeS_set]
theorem Slots.put (h : Slots K G σ δ) {i : Nat} {d : Dt} {v : V} (r : Rep K G d v) : Slots K G (σ.set i (some v)) (putS δ i d) := by
  rw [putS_set]
  exact Paired.setp (fun x hx => ⟨v, rfl, by cases hx; exact r⟩) i h
theorem Slots.wipe (h : Slots K G σ δ) {i : Nat} {o : Option V} : Slots K G (σ.set i o) (wipeS δ i) := by
  rw [wipeS_set]
  exact Paired.setp (fun x hx => by cases hx) i h
end
/-! ## readings -/
abbrev DTE := DS → Store → DK → Prop
abbrev DTT := DS → Store → (Bool → Store → Prop) → Prop
abbrev DTA := DS → Store → (List Dt → Store → Prop) → Prop
structure DEnds where
  nx : DS → Store → Prop
  rt : DK
  bk : DS → Store → Prop := fun _ _ => False
  ct : DS → Store → Prop := fun _ _ => False
abbrev DTS := DEnds → DS → Store → Prop
/-- an exception that leaves -/
def Lk (K : PySem.W.Frag) (E : XK) (e : DX) (Z G : Hp) : Prop := ∀ c H' S', Good K Z H' S' → Ext G (out H' S' Z) → e c S' → E (.ref c) none H'
theorem Lk.ext {K : PySem.W.Frag} {E : XK} {e : DX} {Z G G' : Hp} (h : Lk K E e Z G) (x : Ext G G') : Lk K E e Z G' := fun c H' S' g y q => h c H' S' g (x.trans y) q
/-- the state at which a reading stands -/
structure At (K : PySem.W.Frag) (E : XK) (e : DX) (Z H : Hp) (S : Store) (σ : L2.St) (δ : DS) : Prop where
  good : Good K Z H S
  sl : Slots K (out H S Z) σ δ
  lk : Lk K E e Z (out H S Z)
/-- behind it -/
def Ty (K : PySem.W.Frag) (Z H : Hp) (S : Store) (q : DK) (Q : VK) : Prop := ∀ v x H' S', Good K Z H' S' → Ext (out H S Z) (out H' S' Z) → Rep K (out H' S' Z) x v → q x S' → Q v H'
def tD (K : PySem.W.Frag) (E : XK) (e : DX) (d : DTE) : TE := fun σ H Q => ∃ δ S Z q, At K E e Z H S σ δ ∧ d δ S q ∧ Ty K Z H S q Q
def tDT (K : PySem.W.Frag) (E : XK) (e : DX) (d : DTT) : TT := fun σ H Q => ∃ δ S Z q, At K E e Z H S σ δ ∧ d δ S q ∧ ∀ b H' S', Good K Z H' S' → Ext (out H S Z) (out H' S' Z) → q b S' → Q b H'
def tDA (K : PySem.W.Frag) (E : XK) (e : DX) (d : DTA) : TA := fun σ H Q => ∃ δ S Z q, At K E e Z H S σ δ ∧ d δ S q ∧ ∀ vs ds H' S', Good K Z H' S' → Ext (out H S Z) (out H' S' Z) → Reps K (out H' S' Z) ds vs → q ds S' → Q vs H'
/-- the ends -/
structure EnL (K : PySem.W.Frag) (Z G : Hp) (D : Ends) (DD : DEnds) : Prop where
  nx : ∀ σ δ H S, Good K Z H S → Ext G (out H S Z) → Slots K (out H S Z) σ δ → DD.nx δ S → D.nx σ H
  rt : ∀ v x H S, Good K Z H S → Ext G (out H S Z) → Rep K (out H S Z) x v → DD.rt x S → D.rt v H
  bk : ∀ σ δ H S, Good K Z H S → Ext G (out H S Z) → Slots K (out H S Z) σ δ → DD.bk δ S → D.bk σ H
  ct : ∀ σ δ H S, Good K Z H S → Ext G (out H S Z) → Slots K (out H S Z) σ δ → DD.ct δ S → D.ct σ H
theorem EnL.ext {K : PySem.W.Frag} {Z G G' : Hp} {D : Ends} {DD : DEnds} (h : EnL K Z G D DD) (x : Ext G G') : EnL K Z G' D DD :=
  ⟨fun σ δ H S g y => h.nx σ δ H S g (x.trans y), fun v d H S g y => h.rt v d H S g (x.trans y), fun σ δ H S g y => h.bk σ δ H S g (x.trans y), fun σ δ H S g y => h.ct σ δ H S g (x.trans y)⟩
def tDS (K : PySem.W.Frag) (E : XK) (e : DX) (d : DTS) : TS := fun D σ H => ∃ δ S Z DD, At K E e Z H S σ δ ∧ d DD δ S ∧ EnL K Z (out H S Z) D DD
section
variable {K : PySem.W.Frag} {E : XK} {e : DX} {Z H H' : Hp} {S S' : Store} {σ : L2.St} {δ : DS} {q : DK} {Q : VK}
theorem At.to (a : At K E e Z H S σ δ) (g : Good K Z H' S') (x : Ext (out H S Z) (out H' S' Z)) : At K E e Z H' S' σ δ := ⟨g, a.sl.ext x, a.lk.ext x⟩
theorem Ty.ext (h : Ty K Z H S q Q) (x : Ext (out H S Z) (out H' S' Z)) : Ty K Z H' S' q Q := fun v d H2 S2 g y => h v d H2 S2 g (x.trans y)
end
section
variable {X : Cx} {ex : Expr} {t t' : TE}
theorem PE.imp (h : PE X ex t) (i : ∀ σ H Q, t' σ H Q → t σ H Q) : PE X ex t' := ⟨fun pins s σ H Q I q => h.run pins s σ H Q I (i _ _ _ q)⟩
theorem PT.imp {t t' : TT} (h : PT X ex t) (i : ∀ σ H Q, t' σ H Q → t σ H Q) : PT X ex t' := ⟨fun pins s σ H Q I q => h.run pins s σ H Q I (i _ _ _ q)⟩
theorem PW.imp {t t' : TT} (h : PW X ex t) (i : ∀ σ H Q, t' σ H Q → t σ H Q) : PW X ex t' := ⟨fun wh pins s σ H Q I q => h.run wh pins s σ H Q I (i _ _ _ q)⟩
theorem PA.imp {es : List Expr} {t t' : TA} (h : PA X es t) (i : ∀ σ H Q, t' σ H Q → t σ H Q) : PA X es t' := ⟨fun po pins s σ H Q I q => h.run po pins s σ H Q I (i _ _ _ q)⟩
theorem PS.imp {st : Stmt} {t t' : TS} (h : PS X st t) (i : ∀ D σ H, t' D σ H → t D σ H) : PS X st t' := ⟨fun pins s σ H D I q => h.run pins s σ H D I (i _ _ _ q)⟩
theorem PSs.imp {st : List Stmt} {t t' : TS} (h : PSs X st t) (i : ∀ D σ H, t' D σ H → t D σ H) : PSs X st t' := ⟨fun pins s σ H D I q => h.run pins s σ H D I (i _ _ _ q)⟩
end
end Dn

namespace Dn
open PySem PySem.Spec PyProof.Rows L2 Pr
/-! ## operations by values -/
abbrev D2 := Dt → Dt → Store → DK → Prop
def rD (K : PySem.W.Frag) (dr : D2) : R2 := fun x y H Q => ∃ dx dy S Z q, Good K Z H S ∧ Rep K (out H S Z) dx x ∧ Rep K (out H S Z) dy y ∧ dr dx dy S q ∧ Ty K Z H S q Q
@[reducible] def dOp (dr : D2) (a b : DTE) : DTE := fun δ S q => a δ S fun x S1 => b δ S1 fun y S2 => dr x y S2 q
@[reducible] def dVar (i : Nat) : DTE := fun δ S q => match look δ i with
  | some d => q d S
  | none => False
@[reducible] def dC (d : Dt) : DTE := fun _ S q => q d S
section
variable {K : PySem.W.Frag} {Z H : Hp} {S : Store} {q : DK} {Q : VK} {v x y : V} {d dx dy : Dt} {E : XK} {e : DX} {σ : L2.St} {δ : DS}
/-- the same heap, the same store -/
theorem Ty.here (k : Ty K Z H S q Q) (g : Good K Z H S) (h : q d S) (r : Rep K (out H S Z) d v) : Q v H := k v d H S g Ext.refl r h
/-- a new thing that stands still -/
theorem Ty.new (k : Ty K Z H S q Q) (g : Good K Z H S) {p : Addr} {o : HO} (np : H p = none) (h : q d S) (r : Rep K (out (upd H p o) S Z) d (.ref p)) : Q (.ref p) (upd H p o) := k _ d _ S (g.new np) (ext_new g np) r h
/-- a new cell -/
theorem Ty.own (k : Ty K Z H S q Q) (g : Good K Z H S) {p : Addr} {o : HO} {c : Cell} (np : H p = none) (h : q (.ref p) (sput S p c)) (r : CRep K (out H S Z) c o) : Q (.ref p) (upd H p o) :=
  k _ (.ref p) _ _ (g.own np r) (by rw [out_own g np]; exact Ext.refl) rfl h
theorem tD_op {dr : D2} {da db : DTE} (h : tD K E e (dOp dr da db) σ H Q) : tOp (rD K dr) (tD K E e da) (tD K E e db) σ H Q := by
  obtain ⟨δ, S, Z, q, t, h, k⟩ := h
  exact ⟨δ, S, Z, _, t, h, fun v x H1 S1 g1 x1 r1 h1 => ⟨δ, S1, Z, _, t.to g1 x1, h1, fun w y H2 S2 g2 x2 r2 h2 => ⟨x, y, S2, Z, q, g2, Rep.ext x2 _ _ r1, r2, h2, k.ext (x1.trans x2)⟩⟩⟩
end
section
variable {X : Cx} {K : PySem.W.Frag} {E : XK} {e : DX} {pos pos' apos : Pos} {a b c ex : Expr} {da db dc : DTE}
theorem de_op {op : Operator} {dr : D2} (ho : OpR X (binaryOp op) (rD K dr)) (ha : PE X a (tD K E e da)) (hb : PE X b (tD K E e db)) : PE X (.BinOp a op b pos) (tD K E e (dOp dr da db)) :=
  PE.imp (pe_op ho ha hb) fun _ _ _ h => tD_op h
theorem de_cmp {op : CmpOp} {dr : D2} (ho : OpR X (compareOp op) (rD K dr)) (ha : PE X a (tD K E e da)) (hb : PE X b (tD K E e db)) (hm : behindInMarks op b = false := by rfl) : PE X (.Compare a [op] [b] pos) (tD K E e (dOp dr da db)) :=
  PE.imp (pe_cmpR ho ha hb hm) fun _ _ _ h => tD_op h
theorem dv {i : Nat} {x : Str} (h : PE X (.Name x pos) (tVar i)) : PE X (.Name x pos) (tD K E e (dVar i)) := PE.imp h fun σ H Q h => by
  obtain ⟨δ, S, Z, q, t, h, k⟩ := h
  cases hl : look δ i with
  | none => simp only [dVar, hl] at h
  | some d =>
    simp only [dVar, hl] at h
    obtain ⟨v, h1, h2⟩ := t.sl.look hl
    exact ⟨v, h1, k.here t.good h h2⟩
theorem de_c {v : V} {d : Dt} (h : PE X ex (tC v)) (r : ∀ G, Rep K G d v) : PE X ex (tD K E e (dC d)) := PE.imp h fun σ H Q h => by
  obtain ⟨δ, S, Z, q, t, h, k⟩ := h
  exact k.here t.good h (r _)
theorem de_int {i j} : PE X (.Constant (.int i) j pos) (tD K E e (dC (.int i))) := de_c pe_int fun _ => rfl
theorem de_bl {b j} : PE X (.Constant (.bool b) j pos) (tD K E e (dC (.bl b))) := de_c pe_bl fun _ => rfl
theorem de_non {j} : PE X (.Constant .none j pos) (tD K E e (dC .non)) := de_c pe_non fun _ => rfl
theorem de_str {x j} (h : SOk x := by exact ⟨by decide +kernel, by decide +kernel⟩) : PE X (.Constant (.str x) j pos) (tD K E e (dC (.str x))) := de_c pe_str fun _ => ⟨rfl, h⟩
/-- a module's constant -/
theorem de_gcI {x : Str} {i : Int} (hg : Gl X x) (hm : ∃ u, X.mg x = some u ∧ RelV (.int i) u) (hd : (x == ("__debug__" : Str)) = false := by decide) : PE X (.Name x pos) (tD K E e (dC (.int i))) := de_c (pe_gcI hg hm hd) fun _ => rfl
theorem de_gcS {x z : Str} (hg : Gl X x) (hm : ∃ u, X.mg x = some u ∧ RelV (.str z) u) (h : SOk z := by exact ⟨by decide +kernel, by decide +kernel⟩) (hd : (x == ("__debug__" : Str)) = false := by decide) : PE X (.Name x pos) (tD K E e (dC (.str z))) := de_c (pe_gcI hg hm hd) fun _ => ⟨rfl, h⟩
theorem de_gcT {x : Str} {a : Addr} {d : Dt} (hg : Gl X x) (hm : X.mg x = some (.ref a)) (h : ∀ G, Rep K G d (.ref a)) (hd : (x == ("__debug__" : Str)) = false := by decide) : PE X (.Name x pos) (tD K E e (dC d)) := de_c (pe_glob (v := .ref a) hg hm rfl hd) h
end
/-! ## seeing what stands in a list, a dict, a row -/
@[reducible] def seeL (x : Dt) (S : Store) (k : List Dt → Prop) : Prop := match x with
  | .lst l => k l
  | .ref a => ∃ l, S a = some (.lst l) ∧ k l
  | _ => False
@[reducible] def seeQ (x : Dt) (S : Store) (k : List Dt → Prop) : Prop := match x with
  | .lst l => k l
  | .tup l => k l
  | .ref a => ∃ l, S a = some (.lst l) ∧ k l
  | _ => False
@[reducible] def seeD (x : Dt) (S : Store) (k : List (Key × Dt) → Prop) : Prop := match x with
  | .dic l => k l
  | .ref a => ∃ l, (S a = some (.dic l) ∨ ∃ o, S a = some (.lck o l)) ∧ k l
  | _ => False
section
variable {K : PySem.W.Frag} {Z H : Hp} {S : Store} {v : V} {d : Dt}
theorem see_lst (g : Good K Z H S) (r : Rep K (out H S Z) d v) {k : List Dt → Prop} (h : seeL d S k) : ∃ a vs l, v = .ref a ∧ H a = some (.lst vs) ∧ Reps K (out H S Z) l vs ∧ k l := by
  cases d with
  | lst l => obtain ⟨a, vs, h1, h2, h3⟩ := r; exact ⟨a, vs, l, h1, out_le h2, h3, h⟩
  | ref a =>
    obtain ⟨l, h1, h2⟩ := h
    obtain ⟨o, h3, vs, rfl, h4⟩ := g.c a _ h1
    exact ⟨a, vs, l, r, h3, h4, h2⟩
  | _ => exact h.elim
theorem SqT.out {a : Addr} {vs : List V} (h : SqT K (out H S Z) a vs) : SqT K H a vs := by
  rcases h with (h | ⟨o, h⟩) | h
  · exact .inl (.inl (out_le h))
  · exact .inl (.inr ⟨o, out_le h⟩)
  · exact .inr h
theorem Rd.out {a : Addr} {u : HO} (h : Rd (out H S Z) a u) : Rd H a u := by
  rcases h with h | ⟨o, h⟩
  · exact .inl (out_le h)
  · exact .inr ⟨o, out_le h⟩
theorem see_seq (g : Good K Z H S) (r : Rep K (out H S Z) d v) {k : List Dt → Prop} (h : seeQ d S k) : ∃ a vs l, v = .ref a ∧ (SqL K H a vs ∨ SqT K H a vs) ∧ Reps K (out H S Z) l vs ∧ k l := by
  cases d with
  | lst l => obtain ⟨a, vs, h1, h2, h3⟩ := r; exact ⟨a, vs, l, h1, .inl (SqL.of (out_le h2)), h3, h⟩
  | tup l => obtain ⟨a, vs, h1, h2, h3⟩ := r; exact ⟨a, vs, l, h1, .inr (SqT.out h2), h3, h⟩
  | ref a =>
    obtain ⟨l, h1, h2⟩ := h
    obtain ⟨o, h3, vs, rfl, h4⟩ := g.c a _ h1
    exact ⟨a, vs, l, r, .inl (SqL.of h3), h4, h2⟩
  | _ => exact h.elim
theorem see_dic (g : Good K Z H S) (r : Rep K (out H S Z) d v) {k : List (Key × Dt) → Prop} (h : seeD d S k) : ∃ a vs l, v = .ref a ∧ Rd H a (.dK vs) ∧ Repk K (out H S Z) l vs ∧ k l := by
  cases d with
  | dic l => obtain ⟨a, vs, h1, h2, h3⟩ := r; exact ⟨a, vs, l, h1, Rd.out h2, h3, h⟩
  | ref a =>
    obtain ⟨l, h1, h2⟩ := h
    rcases h1 with h1 | ⟨o', h1⟩
    · obtain ⟨o, h3, vs, rfl, h4⟩ := g.c a _ h1
      exact ⟨a, vs, l, r, .inl h3, h4, h2⟩
    · obtain ⟨o, h3, rfl, ob, vs, rfl, h4⟩ := g.c a _ h1
      exact ⟨a, vs, l, r, .inr ⟨ob, h3⟩, h4, h2⟩
  | _ => exact h.elim
end
/-! ## texts -/
theorem SOk.empty : SOk "" := ⟨by decide +kernel, by decide +kernel⟩
theorem sok_all {z : Str} : PySem.PyData.strOk z = true ↔ ∀ c ∈ z.cps.toList, c < 0x110000 := by
  show (z.cps.all fun c => decide (c < 0x110000)) = true ↔ _
  rw [Array.all_eq_true_iff_forall_mem]
  constructor
  · intro h c hc; exact of_decide_eq_true (h c (Array.mem_toList_iff.mp hc))
  · intro h c hc; exact decide_eq_true (h c (Array.mem_toList_iff.mpr hc))
theorem app_cps (a b : Str) : (a ++ b).cps.toList = a.cps.toList ++ b.cps.toList := by
  show (a.cps ++ b.cps).toList = _
  rw [Array.toList_append]
theorem len_cps (a : Str) : a.length = a.cps.toList.length := by show a.cps.size = _; rw [Array.length_toList]
theorem app_len (a b : Str) : (a ++ b).length = a.length + b.length := by rw [len_cps, app_cps, List.length_append, ← len_cps, ← len_cps]
theorem SOk.app {a b : Str} (ha : SOk a) (hb : SOk b) (h : a.length + b.length ≤ sizeLine) : SOk (a ++ b) := ⟨by rw [app_len]; exact h, by
  rw [sok_all, app_cps]
  intro c hc
  rcases List.mem_append.mp hc with m | m
  · exact sok_all.mp ha.ok c m
  · exact sok_all.mp hb.ok c m⟩
theorem SOk.sub {a b : Str} (ha : SOk a) (h : ∀ c ∈ b.cps.toList, c ∈ a.cps.toList) (hl : b.length ≤ a.length) : SOk b := ⟨Nat.le_trans hl ha.len, sok_all.mpr fun c hc => sok_all.mp ha.ok c (h c hc)⟩
theorem SOk.sign {a : Str} (ha : SOk a) {c : Nat} (h : c ∈ a.cps.toList) : SOk ⟨#[c]⟩ := ⟨Nat.le_of_ble_eq_true rfl, sok_all.mpr fun d hd => by
  simp at hd
  rw [hd]
  exact sok_all.mp ha.ok c h⟩
/-! ## data -/
def strLt (a b : Str) : Bool := decide (a.cps.toList < b.cps.toList)
mutual
def py : Dt → PyData
  | .non => .none
  | .bl b => .bool b
  | .int i => .int i
  | .str z => .str z
  | .ref _ => .none
  | .ty _ => .none
  | .tup l => .tuple (pys l)
  | .lst l => .list (pys l)
  | .dic _ => .none
  | .obj _ _ _ => .none
  | .scr _ => .none
  | .lam _ _ => .none
def pys : List Dt → List PyData
  | [] => []
  | d :: l => py d :: pys l
end
mutual
def isDat : Dt → Bool
  | .non | .bl _ | .int _ | .str _ => true
  | .ref _ | .ty _ | .dic _ | .obj _ _ _ | .scr _ | .lam _ _ => false
  | .tup l => areDat l
  | .lst l => areDat l
def areDat : List Dt → Bool
  | [] => true
  | d :: l => isDat d && areDat l
end
def deqv (x y : Dt) : Bool := PyData.eqv (py x) (py y)
theorem pys_map : ∀ l : List Dt, pys l = l.map py
  | [] => rfl
  | d :: l => by show py d :: pys l = _; rw [pys_map l]; rfl
theorem areDat_all : ∀ l : List Dt, areDat l = l.all isDat
  | [] => rfl
  | d :: l => by show (isDat d && areDat l) = _; rw [areDat_all l]; rfl
section
variable {K : PySem.W.Frag} {Z H : Hp} {S : Store}
mutual
theorem Rep.dp : ∀ (d : Dt) (v : V), isDat d = true → Rep K (out H S Z) d v → Dp K H v (py d)
  | .non, v, _, h => by rw [show v = .non from h]; exact .non
  | .bl b, v, _, h => by rw [show v = .bl b from h]; exact .bl b
  | .int i, v, _, h => by rw [show v = .int i from h]; exact .int i
  | .str z, v, _, h => by rw [h.1]; exact .str z
  | .ref _, _, x, _ | .ty _, _, x, _ | .dic _, _, x, _ | .obj _ _ _, _, x, _ | .scr _, _, x, _ | .lam _ _, _, x, _ => by simp [isDat] at x
  | .tup l, v, x, ⟨a, vs, e, h2, h3⟩ => by rw [e]; exact .tup (SqT.out h2) (Reps.dp l vs x h3)
  | .lst l, v, x, ⟨a, vs, e, h2, h3⟩ => by rw [e]; exact .lst (SqL.of (out_le h2)) (Reps.dp l vs x h3)
theorem Reps.dp : ∀ (l : List Dt) (vs : List V), areDat l = true → Reps K (out H S Z) l vs → DpAll K H vs (pys l)
  | [], vs, _, h => by rw [show vs = [] from h]; exact .nil
  | d :: l, vs, x, ⟨v, r, e, h1, h2⟩ => by
    have x : (isDat d && areDat l) = true := x
    rw [Bool.and_eq_true] at x
    rw [e]
    exact .cons (Rep.dp d v x.1 h1) (Reps.dp l r x.2 h2)
end
mutual
theorem Rep.lay {G : Hp} : ∀ (d : Dt) (v : V), Rep K G d v → (py d).canLay0 = true
  | .non, _, _ | .bl _, _, _ | .int _, _, _ | .ref _, _, _ | .ty _, _, _ | .dic _, _, _ | .obj _ _ _, _, _ | .scr _, _, _ | .lam _ _, _, _ => rfl
  | .str z, _, h => h.2.ok
  | .tup l, v, ⟨a, vs, e, h2, h3⟩ => Reps.lay l vs h3
  | .lst l, v, ⟨a, vs, e, h2, h3⟩ => Reps.lay l vs h3
theorem Reps.lay {G : Hp} : ∀ (l : List Dt) (vs : List V), Reps K G l vs → PyData.canLayAll0 (pys l) = true
  | [], _, _ => rfl
  | d :: l, vs, ⟨v, r, e, h1, h2⟩ => by
    show (PyData.canLay0 (py d) && PyData.canLayAll0 (pys l)) = true
    rw [Rep.lay d v h1, Reps.lay l r h2]
    rfl
end
theorem Rep.shaped {G : Hp} {d : Dt} {v : V} (h : Rep K G d v) (hd : (py d).depth ≤ 64) : SeqAt.shaped (py d) = true := by
  show ((py d).canLay0 && decide ((py d).depth ≤ 64)) = true
  rw [Rep.lay d v h, decide_eq_true hd]
  rfl
end
/-! ## the operations -/
@[reducible] def rAdd : D2 := fun x y S q => match x, y with
  | .int i, .int j => q (.int (i + j)) S
  | .str a, .str b => a.length + b.length ≤ sizeLine ∧ q (.str (a ++ b)) S
  | .tup a, .tup b => a.length + b.length ≤ sizeLine ∧ q (.tup (a ++ b)) S
  | x, y => seeL x S fun a => seeL y S fun b => a.length + b.length ≤ sizeLine ∧ q (.lst (a ++ b)) S
@[reducible] def rSub : D2 := fun x y S q => match x, y with
  | .int i, .int j => q (.int (i - j)) S
  | _, _ => False
/-- a text many times -/
def repS (z : Str) (n : Nat) : Str := ⟨((List.replicate n z.cps.toList).flatten).toArray⟩
@[reducible] def rMul : D2 := fun x y S q => match x, y with
  | .int i, .int j => CMul i j ∧ q (.int (i * j)) S
  | .str z, .int n => (0 ≤ n ∧ n < 2 ^ 24 ∧ z.length * n.toNat ≤ sizeLine) ∧ q (.str (repS z n.toNat)) S
  | x, .int n => seeL x S fun l => (-(2 ^ 63) ≤ n ∧ n < 2 ^ 63 ∧ l.length * n.toNat ≤ sizeLine) ∧ q (.lst (List.replicate n.toNat l).flatten) S
  | _, _ => False
@[reducible] def rFdiv : D2 := fun x y S q => match x, y with
  | .int i, .int j => (0 < j ∧ j < 1073741824) ∧ q (.int (i / j)) S
  | _, _ => False
@[reducible] def rMod : D2 := fun x y S q => match x, y with
  | .int i, .int j => 0 < j ∧ q (.int (i % j)) S
  | _, _ => False
@[reducible] def rPow : D2 := fun x y S q => match x, y with
  | .int i, .int j => (0 ≤ j ∧ j ≤ 1000000 ∧ i.natAbs < 2 ^ 64) ∧ q (.int (i ^ j.toNat)) S
  | _, _ => False
@[reducible] def rLt : D2 := fun x y S q => match x, y with
  | .int i, .int j => q (.bl (decide (i < j))) S
  | .str a, .str b => q (.bl (strLt a b)) S
  | _, _ => False
@[reducible] def rLe : D2 := fun x y S q => match x, y with
  | .int i, .int j => q (.bl (decide (i ≤ j))) S
  | .str a, .str b => q (.bl (!strLt b a)) S
  | _, _ => False
@[reducible] def rGt : D2 := fun x y S q => match x, y with
  | .int i, .int j => q (.bl (decide (j < i))) S
  | .str a, .str b => q (.bl (strLt b a)) S
  | _, _ => False
@[reducible] def rGe : D2 := fun x y S q => match x, y with
  | .int i, .int j => q (.bl (decide (j ≤ i))) S
  | .str a, .str b => q (.bl (!strLt a b)) S
  | _, _ => False
@[reducible] def isNon : Dt → Bool
  | .non => true
  | _ => false
@[reducible] def notNon : Dt → Bool
  | .non => false
  | _ => true
theorem notNon_eq (x : Dt) : notNon x = !isNon x := by cases x <;> rfl
@[reducible] def rIs : D2 := fun x y S q => match x, y with
  | x, .non => q (.bl (isNon x)) S
  | .bl a, .bl b => q (.bl (decide (a = b))) S
  | _, _ => False
@[reducible] def rIsNot : D2 := fun x y S q => match x, y with
  | x, .non => q (.bl (notNon x)) S
  | .bl a, .bl b => q (.bl (!decide (a = b))) S
  | _, _ => False
/-- equal data -/
def dEq : D2 := fun x y S q => (isDat x = true ∧ isDat y = true ∧ (py x).depth ≤ 64 ∧ (py y).depth ≤ 64) ∧ q (.bl (deqv x y)) S
def dNe : D2 := fun x y S q => (isDat x = true ∧ isDat y = true ∧ (py x).depth ≤ 64 ∧ (py y).depth ≤ 64) ∧ q (.bl (!deqv x y)) S
/-- among the items of a list -/
def memD (x : Dt) (l : List Dt) : Bool := l.any fun z => deqv z x
def hasS (z y : Str) : Bool := !(Builtin.Str.occurrences z y 0 z.length 1).isEmpty
def dIn (neg : Bool) : D2 := fun x y S q => match y with
  | .str z => ∃ t, x = .str t ∧ q (.bl (if neg then !hasS z t else hasS z t)) S
  | .tup l => (isDat x = true ∧ (py x).depth = 0 ∧ l.all (fun z => isDat z && decide ((py z).depth = 0)) = true) ∧ q (.bl (if neg then !memD x l else memD x l)) S
  | y => seeL y S fun l => (isDat x = true ∧ areDat l = true ∧ (py x).depth ≤ 64 ∧ (py (.lst l)).depth ≤ 64) ∧ q (.bl (if neg then !memD x l else memD x l)) S
section
variable {X : Cx} {K : PySem.W.Frag}
theorem od_add (hK : X.K = K) : OpR X (binaryOp .Add) (rD K rAdd) := fun pins s σ H x y v u Q I rv ru ⟨dx, dy, S, Z, q, g, rx, ry, h, k⟩ => by
  have lists : (seeL dx S fun a => seeL dy S fun b => a.length + b.length ≤ sizeLine ∧ q (.lst (a ++ b)) S) → wpAny (model X.prog X.w) X.A (binaryOp .Add v u) (EP X pins σ Q) X.xe s := fun h => by
    obtain ⟨a, xs, l, rfl, ha, ra, h⟩ := see_lst g rx h
    obtain ⟨b, ys, m, rfl, hb, rb, hl, h⟩ := see_lst g ry h
    exact op_cat pins s σ H _ _ v u Q I rv ru ⟨a, b, xs, ys, rfl, rfl, ha, hb, by rw [← ra.len, ← rb.len]; exact hl, fun p np => k.new g np h ⟨p, _, rfl, out_new g np, Reps.pair.mpr (Paired.app (Reps.pair.mp (Reps.ext (ext_new g np) _ _ ra)) (Reps.pair.mp (Reps.ext (ext_new g np) _ _ rb)))⟩⟩
  cases dx with
  | int i =>
    cases dy with
    | int j => exact op_add pins s σ H x y v u Q I rv ru ⟨i, j, rx, ry, k.here g h rfl⟩
    | _ => exact lists h
  | str a =>
    cases dy with
    | str b => exact op_add_str pins s σ H x y v u Q I rv ru ⟨a, b, rx.1, ry.1, h.1, k.here g h.2 ⟨rfl, rx.2.app ry.2 h.1⟩⟩
    | _ => exact lists h
  | tup l =>
    cases dy with
    | tup m =>
      obtain ⟨a, xs, rfl, ha, ra⟩ := rx
      obtain ⟨b, ys, rfl, hb, rb⟩ := ry
      subst hK
      refine op_catA pins s σ H _ _ v u Q I rv ru ⟨a, b, xs, ys, rfl, rfl, SqT.out ha, SqT.out hb, by rw [← ra.len, ← rb.len]; exact h.1, fun ex => ?_, fun nx ey => ?_, fun nx ny p np => ?_⟩
      · have : l = [] := by subst ex; exact List.eq_nil_of_length_eq_zero ra.len
        subst this
        exact k.here g h.2 ⟨b, ys, rfl, hb, by simpa using rb⟩
      · have : m = [] := by subst ey; exact List.eq_nil_of_length_eq_zero rb.len
        subst this
        exact k.here g h.2 ⟨a, xs, rfl, ha, by simpa using ra⟩
      · exact k.new g np h.2 ⟨p, _, rfl, SqT.of (out_new g np), Reps.pair.mpr (Paired.app (Reps.pair.mp (Reps.ext (ext_new g np) _ _ ra)) (Reps.pair.mp (Reps.ext (ext_new g np) _ _ rb)))⟩
    | _ => exact lists h
  | _ => exact lists h
theorem od_sub : OpR X (binaryOp .Sub) (rD K rSub) := fun pins s σ H x y v u Q I rv ru ⟨dx, dy, S, Z, q, g, rx, ry, h, k⟩ => by
  cases dx with
  | int i =>
    cases dy with
    | int j => exact op_sub pins s σ H x y v u Q I rv ru ⟨i, j, rx, ry, k.here g h rfl⟩
    | _ => exact h.elim
  | _ => exact h.elim
theorem od_fdiv : OpR X (binaryOp .FloorDiv) (rD K rFdiv) := fun pins s σ H x y v u Q I rv ru ⟨dx, dy, S, Z, q, g, rx, ry, h, k⟩ => by
  cases dx with
  | int i =>
    cases dy with
    | int j => exact op_fdiv pins s σ H x y v u Q I rv ru ⟨i, j, rx, ry, h.1, k.here g h.2 rfl⟩
    | _ => exact h.elim
  | _ => exact h.elim
theorem od_mod : OpR X (binaryOp .Mod) (rD K rMod) := fun pins s σ H x y v u Q I rv ru ⟨dx, dy, S, Z, q, g, rx, ry, h, k⟩ => by
  cases dx with
  | int i =>
    cases dy with
    | int j => exact op_mod pins s σ H x y v u Q I rv ru ⟨i, j, rx, ry, h.1, k.here g h.2 rfl⟩
    | _ => exact h.elim
  | _ => exact h.elim
theorem od_pow : OpR X (binaryOp .Pow) (rD K rPow) := fun pins s σ H x y v u Q I rv ru ⟨dx, dy, S, Z, q, g, rx, ry, h, k⟩ => by
  cases dx with
  | int i =>
    cases dy with
    | int j => exact op_pow pins s σ H x y v u Q I rv ru ⟨i, j, rx, ry, h.1, k.here g h.2 rfl⟩
    | _ => exact h.elim
  | _ => exact h.elim
theorem od_lt : OpR X (compareOp .Lt) (rD K rLt) := fun pins s σ H x y v u Q I rv ru ⟨dx, dy, S, Z, q, g, rx, ry, h, k⟩ => by
  cases dx with
  | int i =>
    cases dy with
    | int j => exact op_lt pins s σ H x y v u Q I rv ru ⟨i, j, rx, ry, k.here g h rfl⟩
    | _ => exact h.elim
  | str a =>
    cases dy with
    | str b => exact op_lt_str pins s σ H x y v u Q I rv ru ⟨a, b, rx.1, ry.1, k.here g h rfl⟩
    | _ => exact h.elim
  | _ => exact h.elim
theorem od_le : OpR X (compareOp .LtE) (rD K rLe) := fun pins s σ H x y v u Q I rv ru ⟨dx, dy, S, Z, q, g, rx, ry, h, k⟩ => by
  cases dx with
  | int i =>
    cases dy with
    | int j => exact op_le pins s σ H x y v u Q I rv ru ⟨i, j, rx, ry, k.here g h rfl⟩
    | _ => exact h.elim
  | str a =>
    cases dy with
    | str b => exact op_le_str pins s σ H x y v u Q I rv ru ⟨a, b, rx.1, ry.1, k.here g h rfl⟩
    | _ => exact h.elim
  | _ => exact h.elim
theorem od_gt : OpR X (compareOp .Gt) (rD K rGt) := fun pins s σ H x y v u Q I rv ru ⟨dx, dy, S, Z, q, g, rx, ry, h, k⟩ => by
  cases dx with
  | int i =>
    cases dy with
    | int j => exact op_gt pins s σ H x y v u Q I rv ru ⟨i, j, rx, ry, k.here g h rfl⟩
    | _ => exact h.elim
  | str a =>
    cases dy with
    | str b => exact op_gt_str pins s σ H x y v u Q I rv ru ⟨a, b, rx.1, ry.1, k.here g h rfl⟩
    | _ => exact h.elim
  | _ => exact h.elim
theorem od_ge : OpR X (compareOp .GtE) (rD K rGe) := fun pins s σ H x y v u Q I rv ru ⟨dx, dy, S, Z, q, g, rx, ry, h, k⟩ => by
  cases dx with
  | int i =>
    cases dy with
    | int j => exact op_ge pins s σ H x y v u Q I rv ru ⟨i, j, rx, ry, k.here g h rfl⟩
    | _ => exact h.elim
  | str a =>
    cases dy with
    | str b => exact op_ge_str pins s σ H x y v u Q I rv ru ⟨a, b, rx.1, ry.1, k.here g h rfl⟩
    | _ => exact h.elim
  | _ => exact h.elim
theorem isNon_rep {G : Hp} {d : Dt} {v : V} (r : Rep K G d v) : decide (v = .non) = isNon d := by
  cases d with
  | non => rw [show v = .non from r]; rfl
  | str z => rw [r.1]; rfl
  | tup l => obtain ⟨a, vs, rfl, _⟩ := r; rfl
  | lst l => obtain ⟨a, vs, rfl, _⟩ := r; rfl
  | dic l => obtain ⟨a, vs, rfl, _⟩ := r; rfl
  | obj C nm l => obtain ⟨a, dx, vs, rfl, _⟩ := r; rfl
  | scr ns => obtain ⟨a, rfl, _⟩ := r; rfl
  | lam F b => obtain ⟨a, rfl, _⟩ := r; rfl
  | bl b => rw [show v = _ from r]; rfl
  | int i => rw [show v = _ from r]; rfl
  | ref a => rw [show v = _ from r]; rfl
  | ty a => rw [show v = _ from r]; rfl
theorem od_is : OpR X (compareOp .Is) (rD K rIs) := fun pins s σ H x y v u Q I rv ru ⟨dx, dy, S, Z, q, g, rx, ry, h, k⟩ => by
  cases dy with
  | non =>
    have h : q (.bl (isNon dx)) S := by cases dx <;> exact h
    exact op_isN pins s σ H x y v u Q I rv ru ⟨ry, by rw [isNon_rep rx]; exact k.here g h rfl⟩
  | bl b =>
    cases dx with
    | bl a => exact op_isBl pins s σ H x y v u Q I rv ru ⟨a, b, rx, ry, k.here g h rfl⟩
    | _ => exact h.elim
  | _ => cases dx <;> exact h.elim
theorem od_isNot : OpR X (compareOp .IsNot) (rD K rIsNot) := fun pins s σ H x y v u Q I rv ru ⟨dx, dy, S, Z, q, g, rx, ry, h, k⟩ => by
  cases dy with
  | non =>
    have h : q (.bl (!isNon dx)) S := by cases dx <;> exact h
    exact op_notN pins s σ H x y v u Q I rv ru ⟨ry, by rw [isNon_rep rx]; exact k.here g h rfl⟩
  | bl b =>
    cases dx with
    | bl a => exact op_notBl pins s σ H x y v u Q I rv ru ⟨a, b, rx, ry, k.here g h rfl⟩
    | _ => exact h.elim
  | _ => cases dx <;> exact h.elim
theorem od_eq (hK : X.K = K) (hu : X.A.units + 64 < cLine) : OpR X (compareOp .Eq) (rD K dEq) := fun pins s σ H x y v u Q I rv ru ⟨dx, dy, S, Z, q, g, rx, ry, ⟨⟨h1, h2, h3, h4⟩, h⟩, k⟩ => by
  subst hK
  exact op_eqD hu pins s σ H x y v u Q I rv ru ⟨py dx, py dy, Rep.dp _ _ h1 rx, Rep.dp _ _ h2 ry, Rep.shaped rx h3, Rep.shaped ry h4, k.here g h rfl⟩
theorem od_ne (hK : X.K = K) (hu : X.A.units + 64 < cLine) : OpR X (compareOp .NotEq) (rD K dNe) := fun pins s σ H x y v u Q I rv ru ⟨dx, dy, S, Z, q, g, rx, ry, ⟨⟨h1, h2, h3, h4⟩, h⟩, k⟩ => by
  subst hK
  exact op_neD hu pins s σ H x y v u Q I rv ru ⟨py dx, py dy, Rep.dp _ _ h1 rx, Rep.dp _ _ h2 ry, Rep.shaped rx h3, Rep.shaped ry h4, k.here g h rfl⟩
end
end Dn

namespace Dn
open PySem PySem.Spec PyProof.Rows L2 Pr
@[reducible] def Ift (b : Bool) (A B : Prop) : Prop := match b with
  | true => A
  | false => B
theorem Ift.ite {b : Bool} {A B : Prop} (h : Ift b A B) : if b = true then A else B := by cases b <;> simpa using h
theorem ift {p A B : Prop} [Decidable p] (h1 : p → A) (h2 : ¬ p → B) : Ift (decide p) A B := by
  by_cases h : p
  · rw [decide_eq_true h]; exact h1 h
  · rw [decide_eq_false h]; exact h2 h
theorem iftN {p A B : Prop} [Decidable p] (h1 : ¬ p → A) (h2 : p → B) : Ift (!decide p) A B := by
  by_cases h : p
  · rw [decide_eq_true h]; exact h2 h
  · rw [decide_eq_false h]; exact h1 h
theorem ift_b {b : Bool} {A B : Prop} (h1 : b = true → A) (h2 : b = false → B) : Ift b A B := by
  cases b
  · exact h2 rfl
  · exact h1 rfl
theorem iftNb {b : Bool} {A B : Prop} (h1 : b = false → A) (h2 : b = true → B) : Ift (!b) A B := by
  cases b
  · exact h1 rfl
  · exact h2 rfl
theorem ift_t {b : Bool} {A B : Prop} (h : b = true) (h1 : A) : Ift b A B := by rw [h]; exact h1
theorem ift_f {b : Bool} {A B : Prop} (h : b = false) (h1 : B) : Ift b A B := by rw [h]; exact h1
theorem ift_pt {p A B : Prop} [Decidable p] (h : p) (h1 : A) : Ift (decide p) A B := by rw [decide_eq_true h]; exact h1
theorem ift_pf {p A B : Prop} [Decidable p] (h : ¬ p) (h1 : B) : Ift (decide p) A B := by rw [decide_eq_false h]; exact h1
theorem iftN_t {p A B : Prop} [Decidable p] (h : ¬ p) (h1 : A) : Ift (!decide p) A B := by rw [decide_eq_false h]; exact h1
theorem iftN_f {p A B : Prop} [Decidable p] (h : p) (h1 : B) : Ift (!decide p) A B := by rw [decide_eq_true h]; exact h1
/-! ## truth -/
@[reducible] def dTruV (x : Dt) (S : Store) (k : Bool → Prop) : Prop := match x with
  | .non => k false
  | .bl b => k b
  | .int i => k (!decide (i = 0))
  | .str z => k (!decide (z = ""))
  | .tup l => k (!l.isEmpty)
  | .lst l => k (!l.isEmpty)
  | .dic l => False
  | .ref a => ∃ c, S a = some c ∧ (match c with
    | .lst l => k (!l.isEmpty)
    | .dic l => k (!l.isEmpty)
    | _ => False)
  | .ty _ => False
  | .obj _ _ _ => False
  | .scr _ => False
  | .lam _ _ => False
theorem str_zero {z : Str} : ((z.length : Int) != 0) = !decide (z = "") := by
  have e : (("" : Str) : Str) = ⟨#[]⟩ := by decide +kernel
  rw [e]
  obtain ⟨c⟩ := z
  by_cases h : c = #[]
  · subst h; rfl
  · have h1 : ¬ ((⟨c⟩ : Str) = ⟨#[]⟩) := fun q => h (by injection q)
    rw [decide_eq_false h1]
    show ((c.size : Int) != 0) = true
    rw [bne_iff_ne]
    intro q
    apply h
    have : c.size = 0 := by omega
    exact Array.eq_empty_of_size_eq_zero this
theorem isEmpty_len {α β : Type} {l : List α} {m : List β} (h : l.length = m.length) : m.isEmpty = l.isEmpty := by
  cases l <;> cases m <;> first | rfl | simp at h
theorem Repk.len {K : PySem.W.Frag} {G : Hp} {l : List (Key × Dt)} {vs : List (Key × V)} (h : Repk K G l vs) : l.length = vs.length := Paired.length (Repk.pair.mp h)
section
variable {K : PySem.W.Frag} {Z H : Hp} {S : Store} {v : V} {d : Dt}
theorem tru_of (g : Good K Z H S) (r : Rep K (out H S Z) d v) {k : Bool → Prop} (h : dTruV d S k) : ∃ b, k b ∧ TruV K v H b := by
  cases d with
  | non => rw [show v = _ from r]; exact ⟨_, h, rfl⟩
  | bl b => rw [show v = _ from r]; exact ⟨_, h, rfl⟩
  | int i => rw [show v = _ from r]; exact ⟨_, h, by
      show _ = (i != 0)
      by_cases z : i = 0 <;> simp [z]⟩
  | str z => rw [r.1]; exact ⟨_, h, r.2.len, str_zero.symm⟩
  | tup l =>
    obtain ⟨a, vs, rfl, h1, h2⟩ := r
    exact ⟨_, h, .inr (.inl ⟨vs, SqT.out h1, by rw [isEmpty_len h2.len]⟩)⟩
  | lst l =>
    obtain ⟨a, vs, rfl, h1, h2⟩ := r
    exact ⟨_, h, .inl ⟨vs, SqL.of (out_le h1), by rw [isEmpty_len h2.len]⟩⟩
  | dic l => exact h.elim
  | ref a =>
    obtain ⟨c, h1, h2⟩ := h
    rw [show v = _ from r]
    obtain ⟨o, h3, h4⟩ := g.c a _ h1
    cases c with
    | lst l => obtain ⟨vs, rfl, h5⟩ := h4; exact ⟨_, h2, .inl ⟨vs, SqL.of h3, by rw [isEmpty_len h5.len]⟩⟩
    | dic l => obtain ⟨vs, rfl, h5⟩ := h4; exact ⟨_, h2, .inr (.inr ⟨vs, h3, by rw [isEmpty_len h5.len]⟩)⟩
    | _ => exact h2.elim
  | ty _ => exact h.elim
  | obj _ _ _ => exact h.elim
  | scr _ => exact h.elim
  | lam _ _ => exact h.elim
end
@[reducible] def dTru (a : DTE) : DTT := fun δ S q => a δ S fun x S1 => dTruV x S1 fun b => q b S1
@[reducible] def dNotT (a : DTE) : DTE := fun δ S q => a δ S fun x S1 => dTruV x S1 fun b => q (.bl (!b)) S1
@[reducible] def dAnd (a b : DTE) : DTE := fun δ S q => a δ S fun x S1 => dTruV x S1 fun k => Ift k (b δ S1 q) (q x S1)
@[reducible] def dOr (a b : DTE) : DTE := fun δ S q => a δ S fun x S1 => dTruV x S1 fun k => Ift k (q x S1) (b δ S1 q)
@[reducible] def dTAnd (t u : DTT) : DTT := fun δ S q => t δ S fun c S1 => Ift c (u δ S1 q) (q false S1)
@[reducible] def dTOr (t u : DTT) : DTT := fun δ S q => t δ S fun c S1 => Ift c (q true S1) (u δ S1 q)
@[reducible] def dTNot (t : DTT) : DTT := fun δ S q => t δ S fun c S1 => q (!c) S1
@[reducible] def dIfE (t : DTT) (a b : DTE) : DTE := fun δ S q => t δ S fun c S1 => Ift c (a δ S1 q) (b δ S1 q)
@[reducible] def dChain (r r' : D2) (a b c : DTE) : DTE := fun δ S q => a δ S fun x S1 => b δ S1 fun y S2 => r x y S2 fun z S3 => ∃ k, z = .bl k ∧ Ift k (c δ S3 fun w S4 => r' y w S4 q) (q (.bl false) S3)
@[reducible] def dNeg (a : DTE) : DTE := fun δ S q => a δ S fun x S1 => match x with
  | .int i => q (.int (-i)) S1
  | _ => False
/-- few things -/
@[reducible] def Lim : List Dt → Nat → Prop → Prop
  | [], _, A => A
  | _ :: l, n + 1, A => Lim l n A
  | _ :: _, 0, _ => False
theorem Lim.le : ∀ {l : List Dt} {n : Nat} {A : Prop}, Lim l n A → l.length ≤ n ∧ A
  | [], _, _, h => ⟨Nat.zero_le _, h⟩
  | _ :: l, n + 1, A, h => by
    obtain ⟨h1, h2⟩ := Lim.le (l := l) (n := n) h
    exact ⟨Nat.succ_le_succ h1, h2⟩
  | _ :: _, 0, _, h => h.elim
@[reducible] def dTup (t : DTA) : DTE := fun δ S q => t δ S fun xs S1 => Lim xs 1000 (q (.tup xs) S1)
@[reducible] def dLst (t : DTA) : DTE := fun δ S q => t δ S fun xs S1 => Lim xs 1000 (q (.lst xs) S1)
/-- a list that will change -/
@[reducible] def dLstO (t : DTA) : DTE := fun δ S q => t δ S fun xs S1 => Lim xs 1000 (∀ p, S1 p = none → q (.ref p) (sput S1 p (.lst xs)))
@[reducible] def dNil : DTA := fun _ S q => q [] S
@[reducible] def dCons (a : DTE) (t : DTA) : DTA := fun δ S q => a δ S fun x S1 => t δ S1 fun xs S2 => q (x :: xs) S2
section
variable {X : Cx} {K : PySem.W.Frag} {E : XK} {e : DX} {pos pos' apos : Pos} {a b c ex : Expr} {es rest : List Expr} {da db dc : DTE} {ta tb : DTT} {ts : DTA}
theorem tD_seq {d : DTE} {f : Dt → Store → DK → Prop} {σ : L2.St} {H : Hp} {Q : VK} {R : V → Hp → Prop} (h : tD K E e (fun δ S q => d δ S fun x S1 => f x S1 q) σ H Q)
    (k : ∀ v x δ S Z H1 q, At K E e Z H1 S σ δ → Rep K (out H1 S Z) x v → f x S q → Ty K Z H1 S q Q → R v H1) : tD K E e d σ H R := by
  obtain ⟨δ, S, Z, q, t, h, k'⟩ := h
  exact ⟨δ, S, Z, _, t, h, fun v x H1 S1 g1 x1 r1 h1 => k v x δ S1 Z H1 q (t.to g1 x1) r1 h1 (k'.ext x1)⟩
theorem de_tru (hK : X.K = K) (ha : PE X a (tD K E e da)) (he : ∀ whole, isTrue a X.env whole = (do let v ← whole; standAt a.pos; holding [v] (truthy v)) := by intro _; rfl) : PT X a (tDT K E e (dTru da)) := PT.imp (pt_truthK hK ha he) fun σ H Q h => by
  obtain ⟨δ, S, Z, q, t, h, k⟩ := h
  refine ⟨δ, S, Z, _, t, h, fun v x H1 S1 g1 x1 r1 h1 => ?_⟩
  obtain ⟨b, h2, h3⟩ := tru_of g1 r1 h1
  exact ⟨b, h3, k b H1 S1 g1 x1 h2⟩
theorem de_not (hK : X.K = K) (ha : PE X a (tD K E e da)) : PE X (.UnaryOp .Not a pos) (tD K E e (dNotT da)) := by
  subst hK
  refine PE.imp (pe_notT ha) fun σ H Q h => ?_
  refine tD_seq (f := fun x S q => dTruV x S fun b => q (.bl (!b)) S) h fun v x δ S Z H1 q t r h k => ?_
  obtain ⟨b, h2, h3⟩ := tru_of t.good r h
  exact ⟨b, h3, k.here t.good h2 rfl⟩
theorem de_and (hK : X.K = K) (ha : PE X a (tD K E e da)) (hb : PE X (.BoolOp .And (b :: rest) pos) (tD K E e db)) : PE X (.BoolOp .And (a :: b :: rest) pos) (tD K E e (dAnd da db)) := PE.imp (pe_andT ha hb) fun σ H Q h => by
  subst hK
  obtain ⟨δ, S, Z, q, t, h, k⟩ := h
  refine ⟨δ, S, Z, _, t, h, fun v x H1 S1 g1 x1 r1 h1 => ?_⟩
  obtain ⟨b, h2, h3⟩ := tru_of g1 r1 h1
  refine ⟨b, h3, ?_⟩
  cases b with
  | true => exact iteT ⟨δ, S1, Z, q, t.to g1 x1, h2, k.ext x1⟩
  | false => exact iteF (k v x H1 S1 g1 x1 r1 h2)
theorem de_or (hK : X.K = K) (ha : PE X a (tD K E e da)) (hb : PE X (.BoolOp .Or (b :: rest) pos) (tD K E e db)) : PE X (.BoolOp .Or (a :: b :: rest) pos) (tD K E e (dOr da db)) := PE.imp (pe_orT ha hb) fun σ H Q h => by
  subst hK
  obtain ⟨δ, S, Z, q, t, h, k⟩ := h
  refine ⟨δ, S, Z, _, t, h, fun v x H1 S1 g1 x1 r1 h1 => ?_⟩
  obtain ⟨b, h2, h3⟩ := tru_of g1 r1 h1
  refine ⟨b, h3, ?_⟩
  cases b with
  | true => exact iteT (k v x H1 S1 g1 x1 r1 h2)
  | false => exact iteF ⟨δ, S1, Z, q, t.to g1 x1, h2, k.ext x1⟩
theorem dt_and (ha : PT X a (tDT K E e ta)) (hb : PW X (.BoolOp .And (b :: rest) pos) (tDT K E e tb)) : PW X (.BoolOp .And (a :: b :: rest) pos) (tDT K E e (dTAnd ta tb)) := PW.imp (pw_and ha hb) fun σ H Q h => by
  obtain ⟨δ, S, Z, q, t, h, k⟩ := h
  refine ⟨δ, S, Z, _, t, h, fun c H1 S1 g1 x1 h1 => ?_⟩
  cases c with
  | true => exact iteT ⟨δ, S1, Z, q, t.to g1 x1, h1, fun b H' S' g' x' => k b H' S' g' (x1.trans x')⟩
  | false => exact iteF (k false H1 S1 g1 x1 h1)
theorem dt_or (ha : PT X a (tDT K E e ta)) (hb : PW X (.BoolOp .Or (b :: rest) pos) (tDT K E e tb)) : PW X (.BoolOp .Or (a :: b :: rest) pos) (tDT K E e (dTOr ta tb)) := PW.imp (pw_or ha hb) fun σ H Q h => by
  obtain ⟨δ, S, Z, q, t, h, k⟩ := h
  refine ⟨δ, S, Z, _, t, h, fun c H1 S1 g1 x1 h1 => ?_⟩
  cases c with
  | true => exact iteT (k true H1 S1 g1 x1 h1)
  | false => exact iteF ⟨δ, S1, Z, q, t.to g1 x1, h1, fun b H' S' g' x' => k b H' S' g' (x1.trans x')⟩
theorem dt_not (ha : PT X a (tDT K E e ta)) : PT X (.UnaryOp .Not a pos) (tDT K E e (dTNot ta)) := PT.imp (pt_not ha) fun σ H Q h => by
  obtain ⟨δ, S, Z, q, t, h, k⟩ := h
  exact ⟨δ, S, Z, _, t, h, fun c H1 S1 g1 x1 h1 => k (!c) H1 S1 g1 x1 h1⟩
theorem de_if (ht : PT X c (tDT K E e ta)) (ha : PE X a (tD K E e da)) (hb : PE X b (tD K E e db)) : PE X (.IfExp c a b pos) (tD K E e (dIfE ta da db)) := PE.imp (pe_ifExp ht ha hb) fun σ H Q h => by
  obtain ⟨δ, S, Z, q, t, h, k⟩ := h
  refine ⟨δ, S, Z, _, t, h, fun c H1 S1 g1 x1 h1 => ?_⟩
  cases c with
  | true => exact iteT ⟨δ, S1, Z, q, t.to g1 x1, h1, k.ext x1⟩
  | false => exact iteF ⟨δ, S1, Z, q, t.to g1 x1, h1, k.ext x1⟩
theorem de_chain {op op' : CmpOp} {r r' : D2} (ho : OpR X (compareOp op) (rD K r)) (ho' : OpR X (compareOp op') (rD K r')) (ha : PE X a (tD K E e da)) (hb : PE X b (tD K E e db)) (hc : PE X c (tD K E e dc)) (hm : lastMarks [op, op'] [b, c] = false := by rfl) :
    PE X (.Compare a [op, op'] [b, c] pos) (tD K E e (dChain r r' da db dc)) := PE.imp (pe_chain ho ho' ha hb hc hm) fun σ H Q h => by
  obtain ⟨δ, S, Z, q, t, h, k⟩ := h
  refine ⟨δ, S, Z, _, t, h, fun v x H1 S1 g1 x1 r1 h1 => ⟨δ, S1, Z, _, t.to g1 x1, h1, fun w y H2 S2 g2 x2 r2 h2 => ⟨x, y, S2, Z, _, g2, Rep.ext x2 _ _ r1, r2, h2, fun u z H3 S3 g3 x3 r3 h3 => ?_⟩⟩⟩
  obtain ⟨c, rfl, h4⟩ := h3
  refine ⟨c, r3, ?_⟩
  have x13 := x1.trans (x2.trans x3)
  cases c with
  | true => exact iteT ⟨δ, S3, Z, _, t.to g3 x13, h4, fun w' y' H4 S4 g4 x4 r4 h5 => ⟨y, y', S4, Z, q, g4, Rep.ext (x3.trans x4) _ _ r2, r4, h5, k.ext (x13.trans x4)⟩⟩
  | false => exact iteF (k _ (.bl false) H3 S3 g3 x13 rfl h4)
theorem de_neg (ha : PE X a (tD K E e da)) : PE X (.UnaryOp .USub a pos) (tD K E e (dNeg da)) := PE.imp (pe_un un_neg ha) fun σ H Q h => by
  refine tD_seq h fun v x δ S Z H1 q t r h k => ?_
  cases x with
  | int i => exact ⟨i, r, k.here t.good h rfl⟩
  | _ => exact h.elim
theorem da_nil : PA X [] (tDA K E e dNil) := PA.imp pa_nil fun σ H Q h => by
  obtain ⟨δ, S, Z, q, t, h, k⟩ := h
  exact k [] [] H S t.good Ext.refl rfl h
theorem da_cons (ha : PE X a (tD K E e da)) (hr : PA X es (tDA K E e ts)) (hs : starEach (a :: es) X.env = (false, eval a X.env) :: starEach es X.env := by rfl) : PA X (a :: es) (tDA K E e (dCons da ts)) := PA.imp (pa_cons ha hr hs) fun σ H Q h => by
  obtain ⟨δ, S, Z, q, t, h, k⟩ := h
  exact ⟨δ, S, Z, _, t, h, fun v x H1 S1 g1 x1 r1 h1 => ⟨δ, S1, Z, _, t.to g1 x1, h1, fun vs xs H2 S2 g2 x2 r2 h2 => k (v :: vs) (x :: xs) H2 S2 g2 (x1.trans x2) ⟨v, vs, rfl, Rep.ext x2 _ _ r1, r2⟩ h2⟩⟩
theorem le_line {n : Nat} (h : n ≤ 1000) : n ≤ sizeLine := Nat.le_trans h (Nat.le_of_ble_eq_true rfl)
theorem de_tup {x1} (h : PA X es (tDA K E e ts)) : PE X (.Tuple es x1 pos) (tD K E e (dTup ts)) := PE.imp (pe_tup h) fun σ H Q h => by
  obtain ⟨δ, S, Z, q, t, h, k⟩ := h
  refine ⟨δ, S, Z, _, t, h, fun vs xs H1 S1 g1 x1 r1 h1 => ?_⟩
  obtain ⟨l1, h1⟩ := h1.le
  refine ⟨by rw [← r1.len]; exact le_line l1, fun p np => (k.ext x1).new g1 np h1 ⟨p, vs, rfl, SqT.of (out_new g1 np), Reps.ext (ext_new g1 np) _ _ r1⟩⟩
theorem de_lst (h : PA X es (tDA K E e ts)) : PE X (.List es pos) (tD K E e (dLst ts)) := PE.imp (pe_lst h) fun σ H Q h => by
  obtain ⟨δ, S, Z, q, t, h, k⟩ := h
  refine ⟨δ, S, Z, _, t, h, fun vs xs H1 S1 g1 x1 r1 h1 => ?_⟩
  obtain ⟨l1, h1⟩ := h1.le
  refine ⟨by rw [← r1.len]; exact le_line l1, fun p np => (k.ext x1).new g1 np h1 ⟨p, vs, rfl, out_new g1 np, Reps.ext (ext_new g1 np) _ _ r1⟩⟩
theorem de_lstO (h : PA X es (tDA K E e ts)) : PE X (.List es pos) (tD K E e (dLstO ts)) := PE.imp (pe_lst h) fun σ H Q h => by
  obtain ⟨δ, S, Z, q, t, h, k⟩ := h
  refine ⟨δ, S, Z, _, t, h, fun vs xs H1 S1 g1 x1 r1 h1 => ?_⟩
  obtain ⟨l1, h1⟩ := h1.le
  refine ⟨by rw [← r1.len]; exact le_line l1, fun p np => (k.ext x1).own g1 np (h1 p (g1.nS np)) ⟨vs, rfl, r1⟩⟩
end
end Dn

namespace Dn
open PySem PySem.Spec PyProof.Rows L2 Pr
/-! ## dicts by keys -/
section
variable {κ : Type} [DecidableEq κ]
def kGet (l : List (κ × Dt)) (k : κ) : Option Dt := (l.find? fun p => decide (p.1 = k)).map (·.2)
def kPut (l : List (κ × Dt)) (k : κ) (d : Dt) : List (κ × Dt) := if (l.any fun p => decide (p.1 = k)) = true then l.map (fun p => if p.1 = k then (p.1, d) else p) else l ++ [(k, d)]
def kDel (l : List (κ × Dt)) (k : κ) : List (κ × Dt) := l.filter fun p => decide (p.1 ≠ k)
def kMerge (l more : List (κ × Dt)) : List (κ × Dt) := more.foldl (fun acc p => kPut acc p.1 p.2) l
def KR (ok : κ → Prop) (K : PySem.W.Frag) (G : Hp) : List (κ × Dt) → List (κ × V) → Prop := Paired fun p q => p.1 = q.1 ∧ (ok p.1 ∧ Rep K G p.2 q.2)
variable {K : PySem.W.Frag} {G G' : Hp} {ok : κ → Prop}
theorem KR.ext {l : List (κ × Dt)} {m : List (κ × V)} (h : KR ok K G l m) (e : Ext G G') : KR ok K G' l m := Paired.mapP h fun _ _ z => ⟨z.1, z.2.1, Rep.ext e _ _ z.2.2⟩
theorem KR.get : ∀ {l : List (κ × Dt)} {m : List (κ × V)} {k : κ}, KR ok K G l m → (kGet l k = none ∧ valV m k = none) ∨ ∃ d v, kGet l k = some d ∧ valV m k = some v ∧ Rep K G d v
  | [], [], k, .nil => .inl ⟨rfl, rfl⟩
  | p :: l, q :: m, k, .cons h t => by
    obtain ⟨e, _, r⟩ := h
    unfold kGet valV
    rw [List.find?_cons, List.find?_cons, ← e]
    by_cases hk : p.1 = k
    · rw [decide_eq_true hk]; exact .inr ⟨_, _, rfl, rfl, r⟩
    · rw [decide_eq_false hk]; exact KR.get t
theorem KR.any {l : List (κ × Dt)} {m : List (κ × V)} {k : κ} (h : KR ok K G l m) : (l.any fun p => decide (p.1 = k)) = m.any fun p => decide (p.1 = k) := by
  induction h with
  | nil => rfl
  | cons h t ih => rw [List.any_cons, List.any_cons, ih, h.1]
theorem KR.put {l : List (κ × Dt)} {m : List (κ × V)} {k : κ} {d : Dt} {v : V} (h : KR ok K G l m) (o : ok k) (r : Rep K G d v) : KR ok K G (kPut l k d) (putK m k v) := by
  unfold kPut putK
  rw [h.any]
  split
  · rename_i z
    clear z
    induction h with
    | nil => exact .nil
    | cons h t ih =>
      rw [List.map_cons, List.map_cons]
      refine .cons ?_ ih
      rw [← h.1]
      split
      · exact ⟨rfl, h.2.1, r⟩
      · exact h
  · exact Paired.app h (.cons ⟨rfl, o, r⟩ .nil)
theorem KR.del {l : List (κ × Dt)} {m : List (κ × V)} {k : κ} (h : KR ok K G l m) : KR ok K G (kDel l k) (dropK m k) := by
  unfold kDel dropK
  induction h with
  | nil => exact .nil
  | cons h t ih =>
    rw [List.filter_cons, List.filter_cons, ← h.1]
    split
    · exact .cons h ih
    · exact ih
theorem KR.merge {l : List (κ × Dt)} {m : List (κ × V)} : ∀ {more : List (κ × Dt)} {mm : List (κ × V)}, KR ok K G l m → KR ok K G more mm → KR ok K G (kMerge l more) (mm.foldl (fun acc kv => putK acc kv.1 kv.2) m) := fun {more mm} h hm => by
  unfold kMerge
  induction hm generalizing l m with
  | nil => exact h
  | cons q t ih =>
    rw [List.foldl_cons, List.foldl_cons, ← q.1]
    exact ih (h.put q.2.1 q.2.2)
theorem KR.len {l : List (κ × Dt)} {m : List (κ × V)} (h : KR ok K G l m) : l.length = m.length := Paired.length h
end
theorem Repk.kr {K : PySem.W.Frag} {G : Hp} {l : List (Key × Dt)} {m : List (Key × V)} : Repk K G l m ↔ KR KOk K G l m := Repk.pair
theorem Rept.kr {K : PySem.W.Frag} {G : Hp} {l : List (List Key × Dt)} {m : List (List Key × V)} : Rept K G l m ↔ KR (fun k => ∀ x ∈ k, KOk x) K G l m := Rept.pair
@[reducible] def isKeyed (x : Dt) (S : Store) (A : Prop) : Prop := match x with
  | .dic _ => A
  | .ref a => ∃ c, S a = some c ∧ (match c with
    | .dic _ => A
    | .lck _ _ => A
    | .dct _ => A
    | _ => False)
  | _ => False
@[reducible] def dGetD (x y : Dt) (S : Store) (k : Option Dt → Prop) : Prop := match y with
  | .int i => seeD x S fun l => k (kGet l (.inl i))
  | .str z => seeD x S fun l => k (kGet l (.inr z))
  | _ => False
section
variable {K : PySem.W.Frag} {Z H : Hp} {S : Store} {v w : V} {d dy : Dt}
theorem keyed_of (g : Good K Z H S) (r : Rep K (out H S Z) d v) {A : Prop} (h : isKeyed d S A) : ∃ a, v = .ref a ∧ IsD H a ∧ A := by
  cases d with
  | dic l => obtain ⟨a, vs, rfl, h1, h2⟩ := r; exact ⟨a, rfl, .inl ⟨vs, Rd.out h1⟩, h⟩
  | ref a =>
    obtain ⟨c, h1, h2⟩ := h
    obtain ⟨o, h3, h4⟩ := g.c a _ h1
    cases c with
    | dic l => obtain ⟨vs, rfl, h5⟩ := h4; exact ⟨a, r, .inl ⟨vs, .inl h3⟩, h2⟩
    | lck u l => obtain ⟨_, ob, vs, rfl, h5⟩ := h4; exact ⟨a, r, .inl ⟨vs, .inr ⟨ob, h3⟩⟩, h2⟩
    | dct l => obtain ⟨vs, rfl, h5⟩ := h4; exact ⟨a, r, .inr ⟨vs, .inl h3⟩, h2⟩
    | _ => exact h2.elim
  | _ => exact h.elim
theorem getD_of (g : Good K Z H S) (r : Rep K (out H S Z) d v) (ry : Rep K (out H S Z) dy w) {k : Option Dt → Prop} (h : dGetD d dy S k) : ∃ a o, v = .ref a ∧ k o ∧ ((o = none ∧ DGet H a w none) ∨ ∃ x u, o = some x ∧ DGet H a w (some u) ∧ Rep K (out H S Z) x u) := by
  have go : ∀ key : Key, w = kV key → (seeD d S fun l => k (kGet l key)) → ∃ a o, v = .ref a ∧ k o ∧ ((o = none ∧ DGet H a w none) ∨ ∃ x u, o = some x ∧ DGet H a w (some u) ∧ Rep K (out H S Z) x u) := fun key e h => by
    obtain ⟨a, vs, l, rfl, h1, h2, h3⟩ := see_dic g r h
    refine ⟨a, _, rfl, h3, ?_⟩
    rcases KR.get (k := key) (Repk.kr.mp h2) with ⟨e1, e2⟩ | ⟨x, u, e1, e2, e3⟩
    · exact .inl ⟨e1, .inl ⟨vs, key, h1, e, e2.symm⟩⟩
    · exact .inr ⟨x, u, e1, .inl ⟨vs, key, h1, e, e2.symm⟩, e3⟩
  cases dy with
  | int i => exact go (.inl i) ry h
  | str z => exact go (.inr z) ry.1 h
  | _ => exact h.elim
end
@[reducible] def dDget (a b : DTE) : DTE := fun δ S q => a δ S fun x S1 => b δ S1 fun y S2 => dGetD x y S2 fun o => ∃ d, o = some d ∧ q d S2
@[reducible] def dDin (b a : DTE) : DTE := fun δ S q => b δ S fun y S1 => a δ S1 fun x S2 => dGetD x y S2 fun o => q (.bl o.isSome) S2
@[reducible] def dDnotin (b a : DTE) : DTE := fun δ S q => b δ S fun y S1 => a δ S1 fun x S2 => dGetD x y S2 fun o => q (.bl (!o.isSome)) S2
@[reducible] def dDget1 (a b : DTE) : DTE := fun δ S q => a δ S fun x S1 => isKeyed x S1 (b δ S1 fun y S2 => dGetD x y S2 fun o => q (o.getD .non) S2)
@[reducible] def dDget2 (a b c : DTE) : DTE := fun δ S q => a δ S fun x S1 => isKeyed x S1 (b δ S1 fun y S2 => c δ S2 fun z S3 => dGetD x y S3 fun o => q (o.getD z) S3)
section
variable {X : Cx} {K : PySem.W.Frag} {E : XK} {e : DX} {pos pos' apos cpos : Pos} {a b c ex : Expr} {es rest : List Expr} {da db dc : DTE} {ta tb : DTT} {ts : DTA}
theorem de_dget (hu : X.A.units + 1 < cLine) (ha : PE X a (tD K E e da)) (hb : PE X b (tD K E e db)) (hs : NoSl b) : PE X (.Subscript a b pos) (tD K E e (dDget da db)) := PE.imp (pe_dget hu ha hb hs) fun σ H Q h => by
  obtain ⟨δ, S, Z, q, t, h, k⟩ := h
  refine ⟨δ, S, Z, _, t, h, fun v x H1 S1 g1 x1 r1 h1 => ⟨δ, S1, Z, _, t.to g1 x1, h1, fun w y H2 S2 g2 x2 r2 h2 => ?_⟩⟩
  obtain ⟨a, o, rfl, ⟨d, rfl, h3⟩, h4⟩ := getD_of g2 (Rep.ext x2 _ _ r1) r2 h2
  rcases h4 with ⟨h4, _⟩ | ⟨x', u, h5, h6, h7⟩
  · cases h4
  · cases h5
    exact ⟨a, u, rfl, h6, (k.ext (x1.trans x2)).here g2 h3 h7⟩
theorem de_din (hu : X.A.units + 1 < cLine) (hb : PE X b (tD K E e db)) (ha : PE X a (tD K E e da)) (hm : behindInMarks .In a = false := by rfl) : PE X (.Compare b [.In] [a] pos) (tD K E e (dDin db da)) := PE.imp (pe_cmp (pc_din hu hb ha) hm) fun σ H Q h => by
  obtain ⟨δ, S, Z, q, t, h, k⟩ := h
  refine ⟨δ, S, Z, _, t, h, fun v x H1 S1 g1 x1 r1 h1 => ⟨δ, S1, Z, _, t.to g1 x1, h1, fun w y H2 S2 g2 x2 r2 h2 => ?_⟩⟩
  obtain ⟨a, o, rfl, h3, h4⟩ := getD_of g2 r2 (Rep.ext x2 _ _ r1) h2
  rcases h4 with ⟨rfl, h4⟩ | ⟨x', u, rfl, h6, h7⟩
  · exact ⟨a, _, rfl, h4, (k.ext (x1.trans x2)).here g2 h3 rfl⟩
  · exact ⟨a, _, rfl, h6, (k.ext (x1.trans x2)).here g2 h3 rfl⟩
theorem de_dnotin (hu : X.A.units + 1 < cLine) (hb : PE X b (tD K E e db)) (ha : PE X a (tD K E e da)) (hm : behindInMarks .NotIn a = false := by rfl) : PE X (.Compare b [.NotIn] [a] pos) (tD K E e (dDnotin db da)) := PE.imp (pe_cmp (pc_dnotin hu hb ha) hm) fun σ H Q h => by
  obtain ⟨δ, S, Z, q, t, h, k⟩ := h
  refine ⟨δ, S, Z, _, t, h, fun v x H1 S1 g1 x1 r1 h1 => ⟨δ, S1, Z, _, t.to g1 x1, h1, fun w y H2 S2 g2 x2 r2 h2 => ?_⟩⟩
  obtain ⟨a, o, rfl, h3, h4⟩ := getD_of g2 r2 (Rep.ext x2 _ _ r1) h2
  rcases h4 with ⟨rfl, h4⟩ | ⟨x', u, rfl, h6, h7⟩
  · exact ⟨a, _, rfl, h4, (k.ext (x1.trans x2)).here g2 h3 rfl⟩
  · exact ⟨a, _, rfl, h6, (k.ext (x1.trans x2)).here g2 h3 rfl⟩
theorem de_dget1 (hu : X.A.units + 1 < cLine) (ha : PE X a (tD K E e da)) (hb : PE X b (tD K E e db)) (m : M1 X a "get" apos b cpos) : PE X (.Call (.Attribute a "get" apos) [b] [] cpos) (tD K E e (dDget1 da db)) := PE.imp (pe_dget1 hu ha hb m) fun σ H Q h => by
  obtain ⟨δ, S, Z, q, t, h, k⟩ := h
  refine ⟨δ, S, Z, _, t, h, fun v x H1 S1 g1 x1 r1 h1 => ?_⟩
  obtain ⟨a, rfl, hd, h1⟩ := keyed_of g1 r1 h1
  refine ⟨a, rfl, hd, δ, S1, Z, _, t.to g1 x1, h1, fun w y H2 S2 g2 x2 r2 h2 => ?_⟩
  obtain ⟨a', o, ea, h3, h4⟩ := getD_of g2 (Rep.ext x2 _ _ r1) r2 h2
  cases ea
  rcases h4 with ⟨rfl, h4⟩ | ⟨x', u, rfl, h6, h7⟩
  · exact ⟨_, h4, (k.ext (x1.trans x2)).here g2 h3 rfl⟩
  · exact ⟨_, h6, (k.ext (x1.trans x2)).here g2 h3 h7⟩
theorem de_dget2 (hu : X.A.units + 1 < cLine) (ha : PE X a (tD K E e da)) (hb : PE X b (tD K E e db)) (hc : PE X c (tD K E e dc)) (m : M2 X a "get" apos b c cpos) : PE X (.Call (.Attribute a "get" apos) [b, c] [] cpos) (tD K E e (dDget2 da db dc)) := PE.imp (pe_dget2 hu ha hb hc m) fun σ H Q h => by
  obtain ⟨δ, S, Z, q, t, h, k⟩ := h
  refine ⟨δ, S, Z, _, t, h, fun v x H1 S1 g1 x1 r1 h1 => ?_⟩
  obtain ⟨a, rfl, hd, h1⟩ := keyed_of g1 r1 h1
  refine ⟨a, rfl, hd, δ, S1, Z, _, t.to g1 x1, h1, fun w y H2 S2 g2 x2 r2 h2 => ⟨δ, S2, Z, _, t.to g2 (x1.trans x2), h2, fun z u H3 S3 g3 x3 r3 h3 => ?_⟩⟩
  obtain ⟨a', o, ea, h4, h5⟩ := getD_of g3 (Rep.ext (x2.trans x3) _ _ r1) (Rep.ext x3 _ _ r2) h3
  cases ea
  rcases h5 with ⟨rfl, h5⟩ | ⟨x', u, rfl, h6, h7⟩
  · exact ⟨_, h5, (k.ext (x1.trans (x2.trans x3))).here g3 h4 r3⟩
  · exact ⟨_, h6, (k.ext (x1.trans (x2.trans x3))).here g3 h4 h7⟩
/-- {} -/
theorem de_dnew : PE X (.Dict [] [] pos) (tD K E e (dC (.dic []))) := PE.imp pe_dnewK fun σ H Q h => by
  obtain ⟨δ, S, Z, q, t, h, k⟩ := h
  exact fun p np => k.new t.good np h ⟨p, [], rfl, .inl (out_new t.good np), rfl⟩
@[reducible] def dNewD : DTE := fun _ S q => ∀ p, S p = none → q (.ref p) (sput S p (.dic []))
theorem de_dnewO : PE X (.Dict [] [] pos) (tD K E e dNewD) := PE.imp pe_dnewK fun σ H Q h => by
  obtain ⟨δ, S, Z, q, t, h, k⟩ := h
  exact fun p np => k.own t.good np (h p (t.good.nS np)) ⟨[], rfl, rfl⟩
end
/-! ## something that is made while it is hidden -/
section
variable {K : PySem.W.Frag} {Z H H' : Hp} {S S' : Store} {p : Addr} {o o' : HO}
theorem hide_out (g : Good K Z H S) (n : H p = none) : out (upd H p o) S (upd Z p o) = out H S Z := by
  funext b
  by_cases hb : b = p
  · subst hb
    have e1 : out (upd H b o) S (upd Z b o) b = none := by
      unfold out
      rw [if_pos]
      rw [upd_same]; exact .inr rfl
    rw [e1, out_of (g.nS n) (g.nZ n), n]
  · unfold out
    rw [upd_ne hb, upd_ne hb]
theorem Good.hide (g : Good K Z H S) (n : H p = none) (hd : Hid o := by first | exact .inl ⟨_, rfl⟩ | exact .inr ⟨_, rfl⟩) : Good K (upd Z p o) (upd H p o) S := by
  refine ⟨fun b x e => ?_, fun b x e => ?_⟩
  · by_cases hb : b = p
    · subst hb
      rw [upd_same] at e
      cases e
      exact ⟨upd_same, g.nS n, hd⟩
    · rw [upd_ne hb] at e
      rw [upd_ne hb]
      exact g.z b x e
  · rw [hide_out g n]
    obtain ⟨o', h1, h2⟩ := g.c b x e
    exact ⟨o', (upd_ne (ne_of_none h1 n)).trans h1, h2⟩
/-- what is hidden may change -/
theorem rehide_out : out (upd H p o') S (upd Z p o') = out H S (upd Z p o) := by
  funext b
  by_cases hb : b = p
  · subst hb
    unfold out
    rw [if_pos (.inr (by rw [upd_same]; rfl)), if_pos (.inr (by rw [upd_same]; rfl))]
  · unfold out
    rw [upd_ne hb, upd_ne hb, upd_ne hb]
theorem Good.rehide (g : Good K (upd Z p o) H S) (hd : Hid o' := by first | exact .inl ⟨_, rfl⟩ | exact .inr ⟨_, rfl⟩) : Good K (upd Z p o') (upd H p o') S := by
  refine ⟨fun b x e => ?_, fun b x e => ?_⟩
  · by_cases hb : b = p
    · subst hb
      rw [upd_same] at e
      cases e
      exact ⟨upd_same, (g.z b o upd_same).2.1, hd⟩
    · rw [upd_ne hb] at e
      rw [upd_ne hb]
      exact g.z b x (by rw [upd_ne hb]; exact e)
  · rw [rehide_out (o := o)]
    obtain ⟨o2, h1, h2⟩ := g.c b x e
    have hb : b ≠ p := fun z => by
      subst z
      have := (g.z b o upd_same).2.1
      rw [e] at this
      cases this
    exact ⟨o2, (upd_ne hb).trans h1, h2⟩
theorem Good.at (g : Good K (upd Z p o) H S) : H p = some o := (g.z p o upd_same).1
theorem Good.noS (g : Good K (upd Z p o) H S) : S p = none := (g.z p o upd_same).2.1
/-- it comes out -/
theorem show_ext (g : Good K (upd Z p o) H S) (nz : Z p = none) : Ext (out H S (upd Z p o)) (out (upd H p o') S Z) := Ext.of fun b x h => by
  obtain ⟨h1, h2, h3⟩ := out_some h
  have hb : b ≠ p := fun z => by rw [z, upd_same] at h2; cases h2
  rw [upd_ne hb] at h2
  rw [out_of h1 h2, upd_ne hb]
  exact h3
theorem Good.shown (g : Good K (upd Z p o) H S) (nz : Z p = none) : Good K Z (upd H p o') S := by
  refine ⟨fun b x e => ?_, fun b x e => ?_⟩
  · have hb : b ≠ p := fun z => by rw [z, nz] at e; cases e
    rw [upd_ne hb]
    exact g.z b x (by rw [upd_ne hb]; exact e)
  · obtain ⟨o2, h1, h2⟩ := g.c b x e
    have hb : b ≠ p := fun z => by
      subst z
      have := (g.z b o upd_same).2.1
      rw [e] at this
      cases this
    exact ⟨o2, (upd_ne hb).trans h1, CRep.ext (show_ext g nz) _ _ h2⟩
theorem shown_at (g : Good K (upd Z p o) H S) (nz : Z p = none) : out (upd H p o') S Z p = some o' := by
  rw [out_of g.noS nz, upd_same]
/-- it comes out as a cell -/
theorem showO_out (g : Good K (upd Z p o) H S) (nz : Z p = none) {c : Cell} : out (upd H p o') (sput S p c) Z = out H S (upd Z p o) := by
  funext b
  by_cases hb : b = p
  · subst hb
    unfold out
    rw [if_pos (.inl (by rw [sput_same]; rfl)), if_pos (.inr (by rw [upd_same]; rfl))]
  · unfold out
    rw [upd_ne hb, upd_ne hb, sput_ne hb]
theorem Good.shownO (g : Good K (upd Z p o) H S) (nz : Z p = none) {c : Cell} (r : CRep K (out H S (upd Z p o)) c o') : Good K Z (upd H p o') (sput S p c) := by
  refine ⟨fun b x e => ?_, fun b x e => ?_⟩
  · have hb : b ≠ p := fun z => by rw [z, nz] at e; cases e
    rw [upd_ne hb, sput_ne hb]
    exact g.z b x (by rw [upd_ne hb]; exact e)
  · rw [showO_out g nz]
    by_cases hb : b = p
    · subst hb
      rw [sput_same] at e
      cases e
      exact ⟨o', upd_same, r⟩
    · rw [sput_ne hb] at e
      rw [upd_ne hb]
      exact g.c b x e
/-- what leaves while it is hidden -/
theorem Good.bare (g : Good K (upd Z p o) H S) (nz : Z p = none) : Good K Z H S := by
  have h := g.shown (o' := o) nz
  have e : upd H p o = H := by
    funext b
    by_cases hb : b = p
    · rw [hb, upd_same, g.at]
    · rw [upd_ne hb]
  rw [e] at h
  exact h
theorem bare_ext (g : Good K (upd Z p o) H S) (nz : Z p = none) : Ext (out H S (upd Z p o)) (out H S Z) := by
  have h := show_ext (o' := o) g nz
  have e : upd H p o = H := by
    funext b
    by_cases hb : b = p
    · rw [hb, upd_same, g.at]
    · rw [upd_ne hb]
  rw [e] at h
  exact h
theorem Lk.hide {E : XK} {e : DX} {G : Hp} (h : Lk K E e Z G) (nz : Z p = none) : Lk K E e (upd Z p o) G := fun c H' S' g x q => h c H' S' (g.bare nz) (x.trans (bare_ext g nz)) q
end
end Dn

namespace Dn
open PySem PySem.Spec PyProof.Rows L2 Pr
/-! ## written dicts -/
@[reducible] def keyOf (x : Dt) (k : Key → Prop) : Prop := match x with
  | .int i => k (.inl i)
  | .str z => k (.inr z)
  | _ => False
@[reducible] def dPairs : List (DTE × DTE) → DS → Store → (List (Key × Dt) → Store → Prop) → Prop
  | [], _, S, q => q [] S
  | (k, v) :: r, δ, S, q => k δ S fun x S1 => v δ S1 fun y S2 => keyOf x fun key => dPairs r δ S2 fun ps S3 => q ((key, y) :: ps) S3
@[reducible] def dDisp (trs : List (DTE × DTE)) : DTE := fun δ S q => dPairs trs δ S fun ps S1 => q (.dic (kMerge [] ps)) S1
@[reducible] def dDispO (trs : List (DTE × DTE)) : DTE := fun δ S q => dPairs trs δ S fun ps S1 => ∀ p, S1 p = none → q (.ref p) (sput S1 p (.dic (kMerge [] ps)))
section
variable {X : Cx} {K : PySem.W.Frag} {E : XK} {e : DX} {pos pos' apos cpos : Pos} {a b c ex : Expr} {es rest : List Expr} {da db dc : DTE} {ta tb : DTT} {ts : DTA} {keys : List (Option Expr)} {values : List Expr}
theorem keyOf_rep {G : Hp} {x : Dt} {v : V} (r : Rep K G x v) {k : Key → Prop} (h : keyOf x k) : ∃ key, v = kV key ∧ KOk key ∧ k key := by
  cases x with
  | int i => exact ⟨.inl i, r, trivial, h⟩
  | str z => exact ⟨.inr z, r.1, r.2, h⟩
  | _ => exact h.elim
theorem pairs_run : ∀ (trs : List (DTE × DTE)) (σ : L2.St) (δ : DS) (H : Hp) (S : Store) (Z : Hp) (q : List (Key × Dt) → Store → Prop) (Q : List (V × V) → Hp → Prop), At K E e Z H S σ δ → dPairs trs δ S q →
    (∀ (kvs : List (Key × V)) (ds : List (Key × Dt)) H' S', Good K Z H' S' → Ext (out H S Z) (out H' S' Z) → KR KOk K (out H' S' Z) ds kvs → kvs.length = trs.length → q ds S' → Q (kvs.map fun kv => (kV kv.1, kv.2)) H') → tPairs (trs.map fun p => (tD K E e p.1, tD K E e p.2)) σ H Q
  | [], σ, δ, H, S, Z, q, Q, t, h, k => k [] [] H S t.good Ext.refl .nil rfl h
  | (a, b) :: r, σ, δ, H, S, Z, q, Q, t, h, k => by
    refine ⟨δ, S, Z, _, t, h, fun v x H1 S1 g1 x1 r1 h1 => ⟨δ, S1, Z, _, t.to g1 x1, h1, fun w y H2 S2 g2 x2 r2 h2 => ?_⟩⟩
    obtain ⟨key, e1, ko, h3⟩ := keyOf_rep r1 h2
    refine pairs_run r σ δ H2 S2 Z _ _ (t.to g2 (x1.trans x2)) h3 fun kvs ds H3 S3 g3 x3 r3 l3 h4 => ?_
    subst e1
    exact k ((key, w) :: kvs) ((key, y) :: ds) H3 S3 g3 (x1.trans (x2.trans x3)) (.cons ⟨rfl, ko, Rep.ext x3 _ _ r2⟩ r3) (congrArg (· + 1) l3) h4
theorem de_disp {trs : List (DTE × DTE)} (h : PPs X pos keys values (trs.map fun p => (tD K E e p.1, tD K E e p.2))) (hall : keys.all (·.isSome) = true) (hl : keys.length = values.length) (h0 : keys ≠ []) (h15 : keys.length ≤ 15) (hn : trs.length ≤ 15 := by decide) :
    PE X (.Dict keys values pos) (tD K E e (dDisp trs)) := PE.imp (pe_disp h hall hl h0 h15) fun σ H Q h => by
  obtain ⟨δ, S, Z, q, t, h, k⟩ := h
  intro p np
  have g0 := t.good.hide (o := .dK []) np
  have nz := t.good.nZ np
  have o0 := hide_out (o := HO.dK []) t.good np
  refine pairs_run trs σ δ _ S (upd Z p (.dK [])) _ _ ⟨g0, by rw [o0]; exact t.sl, by rw [o0]; exact t.lk.hide nz⟩ h fun kvs ds H1 S1 g1 x1 r1 l1 h1 => ?_
  rw [o0] at x1
  refine ⟨g1.at, kvs, rfl, by omega, ?_⟩
  refine k _ (.dic (kMerge [] ds)) _ S1 (g1.shown nz) (x1.trans (show_ext g1 nz)) ⟨p, _, rfl, .inl (shown_at g1 nz), ?_⟩ h1
  exact Repk.kr.mpr (KR.merge .nil (r1.ext (show_ext g1 nz)))
theorem de_dispO {trs : List (DTE × DTE)} (h : PPs X pos keys values (trs.map fun p => (tD K E e p.1, tD K E e p.2))) (hall : keys.all (·.isSome) = true) (hl : keys.length = values.length) (h0 : keys ≠ []) (h15 : keys.length ≤ 15) (hn : trs.length ≤ 15 := by decide) :
    PE X (.Dict keys values pos) (tD K E e (dDispO trs)) := PE.imp (pe_disp h hall hl h0 h15) fun σ H Q h => by
  obtain ⟨δ, S, Z, q, t, h, k⟩ := h
  intro p np
  have g0 := t.good.hide (o := .dK []) np
  have nz := t.good.nZ np
  have o0 := hide_out (o := HO.dK []) t.good np
  refine pairs_run trs σ δ _ S (upd Z p (.dK [])) _ _ ⟨g0, by rw [o0]; exact t.sl, by rw [o0]; exact t.lk.hide nz⟩ h fun kvs ds H1 S1 g1 x1 r1 l1 h1 => ?_
  rw [o0] at x1
  refine ⟨g1.at, kvs, rfl, by omega, ?_⟩
  have r2 : CRep K (out H1 S1 (upd Z p (.dK []))) (.dic (kMerge [] ds)) (.dK (mergeK [] kvs)) := ⟨_, rfl, Repk.kr.mpr (KR.merge .nil r1)⟩
  refine k _ (.ref p) _ (sput S1 p (.dic (kMerge [] ds))) (g1.shownO nz r2) (by rw [showO_out g1 nz]; exact x1) rfl (h1 p g1.noS)
theorem dps_nil : PPs X pos [] [] (([] : List (DTE × DTE)).map fun p => (tD K E e p.1, tD K E e p.2)) := pps_nil
theorem dps_cons {ks : List (Option Expr)} {vs : List Expr} {trs : List (DTE × DTE)} (ha : PE X a (tD K E e da)) (hb : PE X b (tD K E e db)) (hr : PPs X pos ks vs (trs.map fun p => (tD K E e p.1, tD K E e p.2))) :
    PPs X pos (some a :: ks) (b :: vs) (((da, db) :: trs).map fun p => (tD K E e p.1, tD K E e p.2)) := pps_cons ha hb hr
end
/-! ## items and parts -/
@[reducible] def dAtN : List Dt → Nat → (Dt → Prop) → Prop
  | x :: _, 0, k => k x
  | _ :: l, n + 1, k => dAtN l n k
  | [], _, _ => False
theorem dAtN_of : ∀ {l : List Dt} {n : Nat} {d : Dt} {k : Dt → Prop}, l[n]? = some d → k d → dAtN l n k
  | [], _, _, _, h, _ => by simp at h
  | x :: _, 0, d, k, h, q => by simp at h; subst h; exact q
  | _ :: l, n + 1, d, k, h, q => dAtN_of (l := l) (by simpa using h) q
theorem dAtN.get : ∀ {l : List Dt} {n : Nat} {k : Dt → Prop}, dAtN l n k → ∃ d, l[n]? = some d ∧ k d
  | [], _, _, h => h.elim
  | x :: _, 0, k, h => ⟨x, rfl, h⟩
  | _ :: l, n + 1, k, h => by
    obtain ⟨d, h1, h2⟩ := dAtN.get (l := l) h
    exact ⟨d, by simpa using h1, h2⟩
/-- x[3], a written number -/
@[reducible] def dIxC (a : DTE) (n : Nat) : DTE := fun δ S q => a δ S fun x S1 => match x with
  | .str z => ∃ c, z.cps.toList[n]? = some c ∧ q (.str ⟨#[c]⟩) S1
  | x => seeQ x S1 fun l => dAtN l n fun d => q d S1
@[reducible] def rIx : D2 := fun x y S q => match x, y with
  | .str z, .int i => ∃ c, atI z.cps.toList i = some c ∧ q (.str ⟨#[c]⟩) S
  | x, .int i => seeQ x S fun l => ∃ d, atI l i = some d ∧ q d S
  | _, _ => False
def cutD (l : List Dt) (lo hi : Option Int) : List Dt := (l.drop (HT.sIx l.length 0 lo)).take (HT.sIx l.length l.length hi - HT.sIx l.length 0 lo)
@[reducible] def rSl (x : Dt) (lo hi : Option Int) (S : Store) (q : DK) : Prop := match x with
  | .str z => q (.str (cutS z lo hi)) S
  | .tup l => q (.tup (cutD l lo hi)) S
  | .scr ns => q (.lst (cutD (ns.map Dt.int) lo hi)) S
  | x => seeL x S fun l => q (.lst (cutD l lo hi)) S
abbrev DTO := DS → Store → (Option Int → Store → Prop) → Prop
def tDO (K : PySem.W.Frag) (E : XK) (e : DX) (d : DTO) : TO := fun σ H Q => ∃ δ S Z q, At K E e Z H S σ δ ∧ d δ S q ∧ ∀ i H' S', Good K Z H' S' → Ext (out H S Z) (out H' S' Z) → q i S' → Q i H'
@[reducible] def dNoPart : DTO := fun _ S q => q none S
@[reducible] def dPart (a : DTE) : DTO := fun δ S q => a δ S fun x S1 => match x with
  | .int i => q (some i) S1
  | _ => False
@[reducible] def dSl (a : DTE) (lo hi : DTO) : DTE := fun δ S q => a δ S fun x S1 => lo δ S1 fun l S2 => hi δ S2 fun h S3 => rSl x l h S3 q
def rDS (K : PySem.W.Frag) (x : V) (lo hi : Option Int) (H : Hp) (Q : VK) : Prop := ∃ d S Z q, Good K Z H S ∧ Rep K (out H S Z) d x ∧ rSl d lo hi S q ∧ Ty K Z H S q Q
theorem atI_pair {α β : Type} {F : α → β → Prop} {l : List α} {m : List β} {i : Int} {x : α} (h : Paired F l m) (e : atI l i = some x) : ∃ y, atI m i = some y ∧ F x y := by
  unfold atI at e ⊢
  rw [← Paired.length h]
  cases hi : ixN l.length i with
  | none => rw [hi] at e; cases e
  | some j =>
    rw [hi] at e
    exact Paired.get h e
theorem atI_mem {α : Type} {l : List α} {i : Int} {x : α} (e : atI l i = some x) : x ∈ l := by
  unfold atI at e
  cases hi : ixN l.length i with
  | none => rw [hi] at e; cases e
  | some j => rw [hi] at e; exact List.mem_of_getElem? e
theorem cutV_pair {K : PySem.W.Frag} {G : Hp} {l : List Dt} {vs : List V} {lo hi : Option Int} (h : Reps K G l vs) : Reps K G (cutD l lo hi) (cutV vs lo hi) := by
  unfold cutD cutV
  show Reps K G _ ((vs.drop (HT.sIx vs.length 0 lo)).take (HT.sIx vs.length vs.length hi - HT.sIx vs.length 0 lo))
  rw [← h.len]
  exact Reps.pair.mpr (Paired.take _ (Paired.drop _ (Reps.pair.mp h)))
section
variable {X : Cx} {K : PySem.W.Frag} {E : XK} {e : DX} {pos pos' apos cpos p2 : Pos} {a b c ex : Expr} {es rest : List Expr} {da db dc : DTE} {ta tb : DTT} {ts : DTA} {lo hi : Option Expr} {dl dh : DTO}
theorem ix_D (hK : X.K = K) : IxR X (rD K rIx) := by
  subst hK
  intro value slice pins s σ H x y v u Q I rv ru h sub
  obtain ⟨dx, dy, S, Z, q, g, rx, ry, h, k⟩ := h
  have seq : ∀ i : Int, y = .int i → (seeQ dx S fun l => ∃ d, atI l i = some d ∧ q d S) → wpAny (model X.prog X.w) X.A (subscriptTail value slice v u) (EP X pins σ Q) X.xe s := fun i ei h0 => by
    obtain ⟨p, vs, l, rfl, hp, hl, d, hd, hq⟩ := see_seq g rx h0
    obtain ⟨y', h1, h2⟩ := atI_pair (Reps.pair.mp hl) hd
    rcases hp with hp | hp
    · exact ix_list value slice pins s σ H _ y v u Q I rv ru ⟨p, vs, i, y', rfl, ei, hp, h1, k.here g hq h2⟩ sub
    · exact ix_tup value slice pins s σ H _ y v u Q I rv ru ⟨p, vs, i, y', rfl, ei, hp, h1, k.here g hq h2⟩ sub
  cases dy with
  | int i =>
    cases dx with
    | str z =>
      obtain ⟨c, hc, hq⟩ := h
      exact ix_str value slice pins s σ H x y v u Q I rv ru ⟨z, i, c, rx.1, ry, rx.2.len, hc, k.here g hq ⟨rfl, rx.2.sign (atI_mem hc)⟩⟩ sub
    | _ => exact seq i ry h
  | _ => cases dx <;> exact h.elim
theorem de_ix (hK : X.K = K) (ha : PE X a (tD K E e da)) (hb : PE X b (tD K E e db)) (hs : PlainIx b := by exact fun _ _ => rfl) : PE X (.Subscript a b pos) (tD K E e (dOp rIx da db)) := PE.imp (pe_ix (ix_D hK) ha hb hs) fun _ _ _ h => tD_op h
theorem de_ixC (hK : X.K = K) {n : Nat} {j} (ha : PE X a (tD K E e da)) (hs : PlainIx (.Constant (.int (n : Int)) j p2) := by exact fun _ _ => rfl) : PE X (.Subscript a (.Constant (.int (n : Int)) j p2) pos) (tD K E e (dIxC da n)) := PE.imp (pe_ix (ix_D hK) ha pe_int hs) fun σ H Q h => by
  refine tD_seq (f := fun x S q => match x with
    | .str z => ∃ c, z.cps.toList[n]? = some c ∧ q (.str ⟨#[c]⟩) S
    | x => seeQ x S fun l => dAtN l n fun d => q d S) h fun v x δ S Z H1 q t r h k => ?_
  refine ⟨x, .int n, S, Z, q, t.good, r, rfl, ?_, k⟩
  cases x with
  | str z => obtain ⟨c, h1, h2⟩ := h; exact ⟨c, atI_nat h1, h2⟩
  | lst l => obtain ⟨d, h1, h2⟩ := dAtN.get h; exact ⟨d, atI_nat h1, h2⟩
  | tup l => obtain ⟨d, h1, h2⟩ := dAtN.get h; exact ⟨d, atI_nat h1, h2⟩
  | ref a => obtain ⟨l, h0, h⟩ := h; obtain ⟨d, h1, h2⟩ := dAtN.get h; exact ⟨l, h0, d, atI_nat h1, h2⟩
  | _ => exact h.elim
theorem sl_D (hK : X.K = K) : SlR X (rDS K) := by
  subst hK
  intro pins s σ H x v vl vu lo hi sl Q I rv is pl ph h
  obtain ⟨d, S, Z, q, g, r, h, k⟩ := h
  have lists : (seeL d S fun l => q (.lst (cutD l lo hi)) S) → ∃ T id, typeLookup (.type T) "__getitem__" = pure (some (.builtin id)) ∧ s.TypeIs v T ∧ wpAny (model X.prog X.w) X.A (getItem v (.ref sl)) (EP X pins σ Q) X.xe s := fun h => by
    obtain ⟨p, vs, l, rfl, hp, hl, hq⟩ := see_lst g r h
    exact sl_list pins s σ H _ v vl vu lo hi sl Q I rv is pl ph ⟨p, vs, rfl, SqL.of hp, fun p np => k.new g np hq ⟨p, _, rfl, out_new g np, cutV_pair (Reps.ext (ext_new g np) _ _ hl)⟩⟩
  cases d with
  | str z => exact sl_str pins s σ H x v vl vu lo hi sl Q I rv is pl ph ⟨z, r.1, r.2.len, k.here g h ⟨rfl, r.2.sub (fun c hc => List.mem_of_mem_drop (List.mem_of_mem_take (by
      unfold cutS at hc; simpa using hc))) (by
      rw [len_cps, len_cps]; unfold cutS; simp; omega)⟩⟩
  | tup l =>
    obtain ⟨p, vs, rfl, hp, hl⟩ := r
    refine sl_tupA pins s σ H _ v vl vu lo hi sl Q I rv is pl ph ⟨p, vs, rfl, SqT.out hp, fun hw => ?_, fun hw p np => ?_⟩
    · have e : cutD l lo hi = l := by
        obtain ⟨h1, h2⟩ := hw
        have h1 : HT.sIx vs.length 0 lo = 0 := h1
        have h2 : HT.sIx vs.length vs.length hi = vs.length := h2
        unfold cutD
        rw [hl.len, h1, h2]
        simp [← hl.len]
      have h : q (.tup (cutD l lo hi)) S := h
      rw [e] at h
      exact k.here g h ⟨p, vs, rfl, hp, hl⟩
    · exact k.new g np h ⟨p, _, rfl, SqT.of (out_new g np), cutV_pair (Reps.ext (ext_new g np) _ _ hl)⟩
  | scr ns =>
    obtain ⟨a, rfl, h1⟩ := r
    have h2 : SqL X.K H a (ns.map V.int) := by
      rcases h1 with (h1 | ⟨ob, h1⟩) | h1
      · exact .inl (.inl (out_le h1))
      · exact .inl (.inr ⟨ob, out_le h1⟩)
      · exact .inr h1
    have ri : ∀ (l : List Int) (G : Hp), Reps X.K G (l.map Dt.int) (l.map V.int) := fun l G => by
      induction l with
      | nil => exact rfl
      | cons x l ih => exact ⟨_, _, rfl, rfl, ih⟩
    exact sl_list pins s σ H _ v vl vu lo hi sl Q I rv is pl ph ⟨a, _, rfl, h2, fun p np => k.new g np h ⟨p, _, rfl, out_new g np, cutV_pair (ri ns _)⟩⟩
  | _ => exact lists h
theorem do_none : PO X none (tDO K E e dNoPart) := ⟨fun pins s σ H Q I h => by
  obtain ⟨δ, S, Z, q, t, h, k⟩ := h
  exact po_none.run pins s σ H Q I (k none H S t.good Ext.refl h)⟩
theorem do_some (ha : PE X a (tD K E e da)) : PO X (some a) (tDO K E e (dPart da)) := ⟨fun pins s σ H Q I h => by
  refine (po_some ha).run pins s σ H Q I ?_
  obtain ⟨δ, S, Z, q, t, h, k⟩ := h
  refine ⟨δ, S, Z, _, t, h, fun v x H1 S1 g1 x1 r1 h1 => ?_⟩
  cases x with
  | int i => exact ⟨i, r1, k (some i) H1 S1 g1 x1 h1⟩
  | _ => exact h1.elim⟩
theorem de_sl (hK : X.K = K) (ha : PE X a (tD K E e da)) (hl : PO X lo (tDO K E e dl)) (hh : PO X hi (tDO K E e dh)) : PE X (.Subscript a (.Slice lo hi none p2) pos) (tD K E e (dSl da dl dh)) := PE.imp (pe_slice (sl_D hK) ha hl hh) fun σ H Q h => by
  obtain ⟨δ, S, Z, q, t, h, k⟩ := h
  exact ⟨δ, S, Z, _, t, h, fun v x H1 S1 g1 x1 r1 h1 => ⟨δ, S1, Z, _, t.to g1 x1, h1, fun i H2 S2 g2 x2 h2 => ⟨δ, S2, Z, _, t.to g2 (x1.trans x2), h2, fun j H3 S3 g3 x3 h3 => ⟨x, S3, Z, q, g3, Rep.ext (x2.trans x3) _ _ r1, h3, k.ext (x1.trans (x2.trans x3))⟩⟩⟩⟩
end
end Dn

namespace Dn
open PySem PySem.Spec PyProof.Rows L2 Pr
/-! ## attributes -/
structure FldI (K : PySem.W.Frag) (C : Addr) (nm : List Str) (f : Str) (i : Nat) : Prop where
  cls : Cls K C
  no : NoAttr K C f
  nd : nm.Nodup
  at' : nm[i]? = some f
  few : nm.length < 1000
@[reducible] def seeO (C : Addr) (nm : List Str) (x : Dt) (S : Store) (k : List Dt → Prop) : Prop := match x with
  | .obj C' nm' l => (C' = C ∧ nm' = nm) ∧ k l
  | .ref a => ∃ l, S a = some (.ins C nm l) ∧ k l
  | _ => False
@[reducible] def dFld (C : Addr) (nm : List Str) (i : Nat) (a : DTE) : DTE := fun δ S q => a δ S fun x S1 => seeO C nm x S1 fun l => dAtN l i fun d => q d S1
@[reducible] def putAt : List Dt → Nat → Dt → (List Dt → Prop) → Prop
  | [], 0, y, k => k [y]
  | _ :: l, 0, y, k => k (y :: l)
  | x :: l, n + 1, y, k => putAt l n y fun r => k (x :: r)
  | [], _ + 1, _, _ => False
theorem putAt.of : ∀ {l : List Dt} {n : Nat} {y : Dt} {k : List Dt → Prop}, putAt l n y k → (n < l.length ∧ k (l.set n y)) ∨ (n = l.length ∧ k (l ++ [y]))
  | [], 0, y, k, h => .inr ⟨rfl, h⟩
  | x :: l, 0, y, k, h => .inl ⟨Nat.succ_pos _, h⟩
  | x :: l, n + 1, y, k, h => by
    rcases putAt.of (l := l) (n := n) h with ⟨h1, h2⟩ | ⟨h1, h2⟩
    · exact .inl ⟨Nat.succ_lt_succ h1, h2⟩
    · exact .inr ⟨congrArg (· + 1) h1, h2⟩
  | [], _ + 1, _, _, h => h.elim
/-- o.f = e -/
@[reducible] def dSetF (C : Addr) (nm : List Str) (i : Nat) (o v : DTE) : DTS := fun D δ S => v δ S fun y S1 => o δ S1 fun x S2 => match x with
  | .ref a => ∃ l, S2 a = some (.ins C nm l) ∧ putAt l i y fun l' => D.nx δ (sput S2 a (.ins C nm l'))
  | _ => False
/-- o.f op= e -/
@[reducible] def dAugF (C : Addr) (nm : List Str) (i : Nat) (dr : D2) (o v : DTE) : DTS := fun D δ S => o δ S fun x S1 => match x with
  | .ref a => ∃ l, S1 a = some (.ins C nm l) ∧ dAtN l i fun d => v δ S1 fun y S2 => dr d y S2 fun z S3 => ∃ l', S3 a = some (.ins C nm l') ∧ putAt l' i z fun l'' => D.nx δ (sput S3 a (.ins C nm l''))
  | _ => False
section
variable {K : PySem.W.Frag} {G : Hp}
theorem lookup_zip : ∀ {nm : List Str} {n i : Nat} {vs : List V} {f : Str} {v : V}, nm.Nodup → nm[i]? = some f → vs[i]? = some v → i < n → ((nm.take n).zip vs).lookup f = some v
  | [], _, _, _, _, _, _, h, _, _ => by simp at h
  | x :: nm, 0, _, _, _, _, _, _, _, h => absurd h (Nat.not_lt_zero _)
  | x :: nm, n + 1, i, [], _, _, _, _, h, _ => by simp at h
  | x :: nm, n + 1, 0, v' :: vs, f, v, nd, h1, h2, _ => by
    simp at h1 h2
    subst h1 h2
    show ((x, v') :: ((nm.take n).zip vs)).lookup x = some v'
    rw [List.lookup_cons_self]
  | x :: nm, n + 1, i + 1, v' :: vs, f, v, nd, h1, h2, h3 => by
    have h1 : nm[i]? = some f := by simpa using h1
    have nx : f ≠ x := fun e => (List.nodup_cons.mp nd).1 (e ▸ List.mem_of_getElem? h1)
    show ((x, v') :: ((nm.take n).zip vs)).lookup f = some v
    rw [List.lookup_cons, show (f == x) = false from by simpa using nx]
    exact lookup_zip (List.nodup_cons.mp nd).2 h1 (by simpa using h2) (Nat.lt_of_succ_lt_succ h3)
theorem putF_zip_set : ∀ {nm : List Str} {n i : Nat} {vs : List V} {f : Str} {y : V}, nm.Nodup → nm[i]? = some f → i < n → vs.length = n → n ≤ nm.length → putF f y ((nm.take n).zip vs) = (nm.take n).zip (vs.set i y)
  | [], _, _, _, _, _, _, h, _, _, _ => by simp at h
  | x :: nm, 0, _, _, _, _, _, _, h, _, _ => absurd h (Nat.not_lt_zero _)
  | x :: nm, n + 1, i, [], _, _, _, _, _, h, _ => by simp at h
  | x :: nm, n + 1, 0, v' :: vs, f, y, nd, h1, h2, _, _ => by
    simp at h1
    subst h1
    show putF x y ((x, v') :: ((nm.take n).zip vs)) = (x, y) :: ((nm.take n).zip vs)
    unfold putF
    rw [if_pos rfl]
  | x :: nm, n + 1, i + 1, v' :: vs, f, y, nd, h1, h2, h3, h4 => by
    have h1 : nm[i]? = some f := by simpa using h1
    have nx : ¬ x = f := fun e => (List.nodup_cons.mp nd).1 (e ▸ List.mem_of_getElem? h1)
    show putF f y ((x, v') :: ((nm.take n).zip vs)) = (x, v') :: ((nm.take n).zip (vs.set i y))
    unfold putF
    rw [if_neg nx, putF_zip_set (List.nodup_cons.mp nd).2 h1 (Nat.lt_of_succ_lt_succ h2) (by simpa using h3) (by simpa using h4)]
theorem putF_zip_new : ∀ {nm : List Str} {n : Nat} {vs : List V} {f : Str} {y : V}, nm.Nodup → nm[n]? = some f → vs.length = n → putF f y ((nm.take n).zip vs) = (nm.take (n + 1)).zip (vs ++ [y])
  | [], _, _, _, _, _, h, _ => by simp at h
  | x :: nm, 0, [], f, y, nd, h1, _ => by
    simp at h1
    subst h1
    rfl
  | x :: nm, 0, _ :: _, _, _, _, _, h => by simp at h
  | x :: nm, n + 1, [], _, _, _, _, h => by simp at h
  | x :: nm, n + 1, v' :: vs, f, y, nd, h1, h3 => by
    have h1 : nm[n]? = some f := by simpa using h1
    have nx : ¬ x = f := fun e => (List.nodup_cons.mp nd).1 (e ▸ List.mem_of_getElem? h1)
    show putF f y ((x, v') :: ((nm.take n).zip vs)) = (x, v') :: ((nm.take (n + 1)).zip (vs ++ [y]))
    unfold putF
    rw [if_neg nx, putF_zip_new (List.nodup_cons.mp nd).2 h1 (by simpa using h3)]
theorem put_ins {nm : List Str} {l : List Dt} {vs : List V} {i : Nat} {f : Str} {y : V} {d : Dt} {k : List Dt → Prop} {C dx : Addr} (nd : nm.Nodup) (hf : nm[i]? = some f) (r : Reps K G l vs) (rd : Rep K G d y) (ln : l.length ≤ nm.length) (h : putAt l i d k) :
    ∃ l', k l' ∧ CRep K G (.ins C nm l') (.ins C dx (putF f y ((nm.take l.length).zip vs))) := by
  rcases putAt.of h with ⟨h1, h2⟩ | ⟨h1, h2⟩
  · refine ⟨_, h2, dx, vs.set i y, ?_, Reps.pair.mpr (Paired.setp rd i (Reps.pair.mp r)), by rw [List.length_set]; exact ln⟩
    rw [putF_zip_set nd hf h1 r.len.symm ln, List.length_set]
  · subst h1
    refine ⟨_, h2, dx, vs ++ [y], ?_, Reps.pair.mpr (Paired.app (Reps.pair.mp r) (.cons rd .nil)), ?_⟩
    · rw [putF_zip_new nd hf r.len.symm, List.length_append]
      rfl
    · have := (List.getElem?_eq_some_iff.mp hf).1
      rw [List.length_append]
      exact this
variable {Z H : Hp} {S : Store} {v : V} {d : Dt} {C : Addr} {nm : List Str}
theorem seeO_of (g : Good K Z H S) (r : Rep K (out H S Z) d v) {k : List Dt → Prop} (h : seeO C nm d S k) : ∃ a dx vs l, v = .ref a ∧ H a = some (.ins C dx ((nm.take l.length).zip vs)) ∧ Reps K (out H S Z) l vs ∧ l.length ≤ nm.length ∧ k l := by
  cases d with
  | obj C' nm' l =>
    obtain ⟨⟨rfl, rfl⟩, h⟩ := h
    obtain ⟨a, dx, vs, rfl, h1, h2, h3⟩ := r
    exact ⟨a, dx, vs, l, rfl, out_le h1, h2, h3, h⟩
  | ref a =>
    obtain ⟨l, h1, h2⟩ := h
    obtain ⟨o, h3, dx, vs, rfl, h4, h5⟩ := g.c a _ h1
    exact ⟨a, dx, vs, l, r, h3, h4, h5, h2⟩
  | _ => exact h.elim
theorem zip_len {l : List Dt} {vs : List V} (r : Reps K G l vs) (h : nm.length < 1000) : ((nm.take l.length).zip vs).length < 1000 := by
  rw [List.length_zip, List.length_take]
  omega
end
section
variable {X : Cx} {K : PySem.W.Frag} {E : XK} {e : DX} {pos pos' apos cpos p2 tpos : Pos} {a b c o ex value : Expr} {es rest : List Expr} {da db dc dw : DTE} {ta tb : DTT} {ts : DTA} {C : Addr} {nm : List Str} {f : Str} {i : Nat}
theorem de_fld (hK : X.K = K) (F : FldI K C nm f i) (ha : PE X o (tD K E e da)) (hb : attributeBase o f X.env (eval o X.env) = eval o X.env := by rfl) : PE X (.Attribute o f pos) (tD K E e (dFld C nm i da)) := PE.imp (pe_fldK hK ha hb) fun σ H Q h => by
  obtain ⟨δ, S, Z, q, t, h, k⟩ := h
  refine ⟨δ, S, Z, _, t, h, fun v x H1 S1 g1 x1 r1 h1 => ?_⟩
  obtain ⟨a, dx, vs, l, rfl, h2, h3, h4, h5⟩ := seeO_of g1 r1 h1
  obtain ⟨d, h6, h7⟩ := dAtN.get h5
  obtain ⟨v', h8, h9⟩ := Paired.get (Reps.pair.mp h3) h6
  exact ⟨a, C, dx, _, v', rfl, h2, F.cls, F.no, lookup_zip F.nd F.at' h8 (List.getElem?_eq_some_iff.mp h6).1, (k.ext x1).here g1 h7 h9⟩
theorem ds_fld (hK : X.K = K) (F : FldI K C nm f i) (ha : PE X o (tD K E e da)) (hv : PE X value (tD K E e dw)) (hs : swapsWith value (some (.Attribute o f pos')) pos.line X.env = pure false := by rfl) :
    PS X (.Assign [.Attribute o f pos'] value pos) (tDS K E e (dSetF C nm i da dw)) := PS.imp (ps_fldK hK ha hv hs) fun D σ H h => by
  obtain ⟨δ, S, Z, DD, t, h, k⟩ := h
  refine ⟨δ, S, Z, _, t, h, fun v x H1 S1 g1 x1 r1 h1 => ⟨δ, S1, Z, _, t.to g1 x1, h1, fun w y H2 S2 g2 x2 r2 h2 => ?_⟩⟩
  cases y with
  | ref a =>
    obtain ⟨l, h3, h4⟩ := h2
    obtain ⟨ob, h5, dx, vs, rfl, h6, h7⟩ := g2.c a _ h3
    obtain ⟨l', h8, h9⟩ := put_ins (C := C) (dx := dx) F.nd F.at' h6 (Rep.ext x2 _ _ r1) h7 h4
    refine ⟨a, C, dx, _, r2, h5, F.cls, F.no, zip_len h6 F.few, ?_⟩
    have xx := x1.trans x2
    exact k.nx _ _ _ _ (g2.mut h3 h9) (by rw [out_mut h3]; exact xx) (by rw [out_mut h3]; exact t.sl.ext xx) h8
  | _ => exact h2.elim
theorem ds_fldaug (hK : X.K = K) (F : FldI K C nm f i) {op : Operator} {dr : D2} (ho : InOp X op (rD K dr)) (ha : PE X o (tD K E e da)) (hv : PE X value (tD K E e dw)) :
    PS X (.AugAssign (.Attribute o f tpos) op value pos) (tDS K E e (dAugF C nm i dr da dw)) := PS.imp (ps_fldaugK hK ha hv ho) fun D σ H h => by
  obtain ⟨δ, S, Z, DD, t, h, k⟩ := h
  refine ⟨δ, S, Z, _, t, h, fun v x H1 S1 g1 x1 r1 h1 => ?_⟩
  cases x with
  | ref a =>
    obtain ⟨l, h3, h4⟩ := h1
    obtain ⟨ob, h5, dx, vs, rfl, h6, h7⟩ := g1.c a _ h3
    obtain ⟨d, h8, h9⟩ := dAtN.get h4
    obtain ⟨v', h10, h11⟩ := Paired.get (Reps.pair.mp h6) h8
    refine ⟨a, C, dx, _, v', r1, h5, F.cls, F.no, lookup_zip F.nd F.at' h10 (List.getElem?_eq_some_iff.mp h8).1, δ, S1, Z, _, t.to g1 x1, h9, fun w y H2 S2 g2 x2 r2 h12 => ?_⟩
    refine ⟨d, y, S2, Z, _, g2, Rep.ext x2 _ _ h11, r2, h12, fun u z H3 S3 g3 x3 r3 h13 => ?_⟩
    obtain ⟨l', h14, h15⟩ := h13
    obtain ⟨ob, h16, dx', vs', rfl, h17, h18⟩ := g3.c a _ h14
    obtain ⟨l'', h19, h20⟩ := put_ins (C := C) (dx := dx') F.nd F.at' h17 r3 h18 h15
    have xx := x1.trans (x2.trans x3)
    exact ⟨dx', _, h16, zip_len h17 F.few, k.nx _ _ _ _ (g3.mut h14 h20) (by rw [out_mut h14]; exact xx) (by rw [out_mut h14]; exact t.sl.ext xx) h19⟩
  | _ => exact h1.elim
end
/-! ## calls of what is built in -/
abbrev DCr := List Dt → Store → DK → Prop
def rDC (K : PySem.W.Frag) (dr : DCr) : List V → Hp → VK → Prop := fun xs H Q => ∃ ds S Z q, Good K Z H S ∧ Reps K (out H S Z) ds xs ∧ dr ds S q ∧ Ty K Z H S q Q
@[reducible] def dCB (dr : DCr) (t : DTA) : DTE := fun δ S q => t δ S fun xs S1 => dr xs S1 q
abbrev DMr := Dt → List Dt → Store → DK → Prop
def rDM (K : PySem.W.Frag) (dr : DMr) : V → List V → Hp → VK → Prop := fun x xs H Q => ∃ d ds S Z q, Good K Z H S ∧ Rep K (out H S Z) d x ∧ Reps K (out H S Z) ds xs ∧ dr d ds S q ∧ Ty K Z H S q Q
@[reducible] def isTx (x : Dt) (S : Store) (A : Prop) : Prop := match x with
  | .str _ => A
  | _ => False
@[reducible] def isLs (x : Dt) (S : Store) (A : Prop) : Prop := match x with
  | .lst _ => A
  | .ref a => ∃ l, S a = some (.lst l) ∧ A
  | _ => False
@[reducible] def dMt (is : Dt → Store → Prop → Prop) (dr : DMr) (o : DTE) (t : DTA) : DTE := fun δ S q => o δ S fun x S1 => is x S1 (t δ S1 fun xs S2 => dr x xs S2 q)
def IsTyp (K : PySem.W.Frag) (T : String) (is : Dt → Store → Prop → Prop) : Prop := ∀ (Z H : Hp) (S : Store) (d : Dt) (v : V) (A : Prop), Good K Z H S → Rep K (out H S Z) d v → is d S A → tyV K T v H ∧ A
theorem is_tx {K : PySem.W.Frag} : IsTyp K "str" isTx := fun Z H S d v A g r h => by
  cases d with
  | str z => rw [r.1]; exact ⟨rfl, h⟩
  | _ => exact h.elim
theorem is_ls {K : PySem.W.Frag} : IsTyp K "list" isLs := fun Z H S d v A g r h => by
  cases d with
  | lst l => obtain ⟨a, vs, rfl, h1, h2⟩ := r; exact ⟨.inl ⟨rfl, _, SqL.of (out_le h1)⟩, h⟩
  | ref a =>
    obtain ⟨l, h1, h2⟩ := h
    obtain ⟨o, h3, vs, rfl, h4⟩ := g.c a _ h1
    rw [show v = _ from r]
    exact ⟨.inl ⟨rfl, _, SqL.of h3⟩, h2⟩
  | _ => exact h.elim
section
variable {X : Cx} {K : PySem.W.Frag} {E : XK} {e : DX} {pos p apos cpos : Pos} {a o : Expr} {es : List Expr} {da : DTE} {ts : DTA} {dr : DCr} {dm : DMr} {x name : Str} {id T : String} {is : Dt → Store → Prop → Prop}
theorem tD_cb {σ : L2.St} {H : Hp} {Q : VK} (h : tD K E e (dCB dr ts) σ H Q) : tDA K E e ts σ H fun xs H1 => rDC K dr xs H1 Q := by
  obtain ⟨δ, S, Z, q, t, h, k⟩ := h
  exact ⟨δ, S, Z, _, t, h, fun vs ds H1 S1 g1 x1 r1 h1 => ⟨ds, S1, Z, q, g1, r1, h1, k.ext x1⟩⟩
theorem de_callB (hc : CallR X (.builtin id) (rDC K dr)) (hg : Gl X x) (hm : X.mg x = none) (hv : bootBuiltins x = some (.builtin id)) (ha : PA X (a :: es) (tDA K E e ts)) (hn : x ≠ "__name__" := by decide +kernel) (hd : (x == ("__debug__" : Str)) = false := by decide)
    (he : starEach (a :: es) X.env = (false, eval a X.env) :: starEach es X.env := by rfl) (hpl : (backTo pos (starEach es X.env)).any (·.1) = false := by rfl) :
    PE X (.Call (.Name x p) (a :: es) [] pos) (tD K E e (dCB dr ts)) := PE.imp (pe_callB hc hg hm hv ha hn hd he hpl) fun σ H Q h => tD_cb h
theorem de_callTy (hc : CallR X (.type T) (rDC K dr)) (hg : Gl X x) (hm : X.mg x = none) (hv : bootBuiltins x = some (.type T)) (ha : PA X (a :: es) (tDA K E e ts)) (hn : x ≠ "__name__" := by decide +kernel) (hd : (x == ("__debug__" : Str)) = false := by decide)
    (he : starEach (a :: es) X.env = (false, eval a X.env) :: starEach es X.env := by rfl) (hpl : (backTo pos (starEach es X.env)).any (·.1) = false := by rfl) :
    PE X (.Call (.Name x p) (a :: es) [] pos) (tD K E e (dCB dr ts)) := PE.imp (pe_callTy hc hg hm hv ha hn hd he hpl) fun σ H Q h => tD_cb h
theorem tD_mt (hi : IsTyp K T is) {σ : L2.St} {H : Hp} {Q : VK} (h : tD K E e (dMt is dm da ts) σ H Q) : tBM K T (rDM K dm) (tD K E e da) (tDA K E e ts) σ H Q := by
  obtain ⟨δ, S, Z, q, t, h, k⟩ := h
  refine ⟨δ, S, Z, _, t, h, fun v x H1 S1 g1 x1 r1 h1 => ?_⟩
  obtain ⟨h2, h3⟩ := hi Z H1 S1 x v _ g1 r1 h1
  exact ⟨h2, δ, S1, Z, _, t.to g1 x1, h3, fun vs ds H2 S2 g2 x2 r2 h4 => ⟨x, ds, S2, Z, q, g2, Rep.ext x2 _ _ r1, r2, h4, k.ext (x1.trans x2)⟩⟩
theorem de_bm (hK : X.K = K) (hi : IsTyp K T is) (pa : PlainAttrs T) (slot : Slot T name id) (hty : typeOf (.builtin id) = pure (.type "method_descriptor")) (hm : MtR X id (rDM K dm)) (ho : PE X o (tD K E e da)) (ha : PA X (a :: es) (tDA K E e ts))
    (hbase : attributeBase o name X.env (eval o X.env) = eval o X.env := by rfl)
    (hfew : ((backTo cpos (starEach (a :: es) X.env)).all (fun x => !x.1) && (backToKw cpos (keywordEach [] X.env)).all (fun x => x.1.isSome)
      && decide ((a :: es).length + ([] : List Keyword).length + (if ([] : List Keyword).isEmpty then 0 else 1) < 30)) = true := by rfl)
    (hline : (apos.endLine == cpos.line) = true := by rfl) (hs : starEach (a :: es) X.env = (false, eval a X.env) :: starEach es X.env := by rfl) (hplain : (backTo cpos (starEach es X.env)).any (·.1) = false := by rfl) :
    PE X (.Call (.Attribute o name apos) (a :: es) [] cpos) (tD K E e (dMt is dm da ts)) := by
  subst hK
  exact PE.imp (pe_bm pa slot hty hm ho ha hbase hfew hline hs hplain) fun σ H Q h => tD_mt hi h
@[reducible] def dMt0 (is : Dt → Store → Prop → Prop) (dr : DMr) (o : DTE) : DTE := fun δ S q => o δ S fun x S1 => is x S1 (dr x [] S1 q)
theorem de_bm0 (hK : X.K = K) (hi : IsTyp K T is) (pa : PlainAttrs T) (slot : Slot T name id) (hty : typeOf (.builtin id) = pure (.type "method_descriptor")) (hm : MtR X id (rDM K dm)) (ho : PE X o (tD K E e da))
    (hbase : attributeBase o name X.env (eval o X.env) = eval o X.env := by rfl) (hline : (apos.endLine == cpos.line) = true := by rfl) : PE X (.Call (.Attribute o name apos) [] [] cpos) (tD K E e (dMt0 is dm da)) := by
  subst hK
  refine PE.imp (pe_bm0 pa slot hty hm ho hbase hline) fun σ H Q h => ?_
  obtain ⟨δ, S, Z, q, t, h, k⟩ := h
  refine ⟨δ, S, Z, _, t, h, fun v x H1 S1 g1 x1 r1 h1 => ?_⟩
  obtain ⟨h2, h3⟩ := hi Z H1 S1 x v _ g1 r1 h1
  exact ⟨h2, x, [], S1, Z, q, g1, r1, rfl, h3, k.ext x1⟩
end
end Dn

namespace Dn
open PySem PySem.Spec PyProof.Rows L2 Pr
/-! ## statements -/
@[reducible] def dSeq (t u : DTS) : DTS := fun D δ S => t { D with nx := u D } δ S
@[reducible] def dNext : DTS := fun D δ S => D.nx δ S
@[reducible] def dBreak : DTS := fun D δ S => D.bk δ S
@[reducible] def dCont : DTS := fun D δ S => D.ct δ S
@[reducible] def dDrop (a : DTE) : DTS := fun D δ S => a δ S fun _ S1 => D.nx δ S1
@[reducible] def dRet (a : DTE) : DTS := fun D δ S => a δ S D.rt
@[reducible] def dRetN : DTS := fun D _ S => D.rt .non S
@[reducible] def dIf (c : DTT) (t u : DTS) : DTS := fun D δ S => c δ S fun b S1 => Ift b (t D δ S1) (u D δ S1)
@[reducible] def dRaise (e : DX) (C : Addr) : DTS := fun _ _ S => e C S
abbrev DTG := Dt → DS → Store → (DS → Store → Prop) → Prop
abbrev DTGs := List Dt → DS → Store → (DS → Store → Prop) → Prop
@[reducible] def dName (i : Nat) : DTG := fun x δ S n => n (putS δ i x) S
@[reducible] def dGNil : DTGs := fun l δ S n => match l with
  | [] => n δ S
  | _ => False
@[reducible] def dGCons (t : DTG) (u : DTGs) : DTGs := fun l δ S n => match l with
  | d :: r => t d δ S fun δ' S' => u r δ' S' n
  | [] => False
@[reducible] def LenIs : List Dt → Nat → Prop → Prop
  | [], n, A => match n with
    | 0 => A
    | _ + 1 => False
  | _ :: l, n, A => match n with
    | 0 => False
    | k + 1 => LenIs l k A
theorem LenIs.len : ∀ {l : List Dt} {n : Nat} {A : Prop}, LenIs l n A → l.length = n ∧ A
  | [], 0, _, h => ⟨rfl, h⟩
  | _ :: l, n + 1, A, h => by
    obtain ⟨h1, h2⟩ := LenIs.len (l := l) (n := n) h
    exact ⟨congrArg (· + 1) h1, h2⟩
  | [], _ + 1, _, h => h.elim
  | _ :: _, 0, _, h => h.elim
@[reducible] def dGTup (n : Nat) (t : DTGs) : DTG := fun x δ S m => match x with
  | .tup l => LenIs l n (t l δ S m)
  | _ => False
/-- o[i] = .. -/
@[reducible] def dGSubL (o i : DTE) : DTG := fun v δ S n => o δ S fun x S1 => i δ S1 fun y S2 => match x, y with
  | .ref a, .int k => ∃ l, S2 a = some (.lst l) ∧ ∃ j, ixN l.length k = some j ∧ n δ (sput S2 a (.lst (l.set j v)))
  | _, _ => False
@[reducible] def dGSubD (o i : DTE) : DTG := fun v δ S n => o δ S fun x S1 => i δ S1 fun y S2 => match x with
  | .ref a => keyOf y fun k => ∃ l, S2 a = some (.dic l) ∧ l.length < sizeLine ∧ n δ (sput S2 a (.dic (kPut l k v)))
  | _ => False
@[reducible] def dAsg (a : DTE) (g : DTG) : DTS := fun D δ S => a δ S fun x S1 => g x δ S1 D.nx
def tDG (K : PySem.W.Frag) (E : XK) (e : DX) (g : DTG) : TG := fun v σ H N => ∃ x δ S Z n, At K E e Z H S σ δ ∧ Rep K (out H S Z) x v ∧ g x δ S n ∧ ∀ σ' δ' H' S', Good K Z H' S' → Ext (out H S Z) (out H' S' Z) → Slots K (out H' S' Z) σ' δ' → n δ' S' → N σ' H'
def tDGs (K : PySem.W.Frag) (E : XK) (e : DX) (g : DTGs) : TGs := fun vs σ H N => ∃ xs δ S Z n, At K E e Z H S σ δ ∧ Reps K (out H S Z) xs vs ∧ g xs δ S n ∧ ∀ σ' δ' H' S', Good K Z H' S' → Ext (out H S Z) (out H' S' Z) → Slots K (out H' S' Z) σ' δ' → n δ' S' → N σ' H'
/-! ## what is walked -/
abbrev DTL := DS → Store → (List Dt → (Store → Prop) → Store → Prop) → Prop
structure ItOk (K : PySem.W.Frag) (G : Hp) (J : It) (l : List Dt) (keep : Store → Prop) : Prop where
  go : ∀ Z i H S, Good K Z H S → Ext G (out H S Z) → keep S → i < l.length → J.go i H
  stop : ∀ Z H S, Good K Z H S → Ext G (out H S Z) → keep S → J.stop l.length H
  yld : ∀ Z i H S x H', Good K Z H S → Ext G (out H S Z) → keep S → i < l.length → J.yld i H x H' → ∃ d, l[i]? = some d ∧ Good K Z H' S ∧ Ext (out H S Z) (out H' S Z) ∧ Rep K (out H' S Z) d x
def tDI (K : PySem.W.Frag) (E : XK) (e : DX) (it : DTL) : TI := fun σ H R => ∃ δ S Z q, At K E e Z H S σ δ ∧ it δ S q ∧ ∀ l keep H' S' J, Good K Z H' S' → Ext (out H S Z) (out H' S' Z) → ItOk K (out H' S' Z) J l keep → q l keep S' → R J H'
@[reducible] def dItL (a : DTE) : DTL := fun δ S q => a δ S fun x S1 => match x with
  | .lst l => q l (fun _ => True) S1
  | .tup l => q l (fun _ => True) S1
  | .ref a => ∃ l, S1 a = some (.lst l) ∧ q l (fun S => S a = some (.lst l)) S1
  | _ => False
@[reducible] def dItT (a : DTE) : DTL := fun δ S q => a δ S fun x S1 => match x with
  | .tup l => q l (fun _ => True) S1
  | _ => False
@[reducible] def dItLs (a : DTE) : DTL := fun δ S q => a δ S fun x S1 => match x with
  | .lst l => q l (fun _ => True) S1
  | .ref a => ∃ l, S1 a = some (.lst l) ∧ q l (fun S => S a = some (.lst l)) S1
  | _ => False
def rangeD (lo : Int) (n : Nat) : List Dt := (List.range n).map fun (i : Nat) => Dt.int (lo + i)
@[reducible] def dItR1 (t : DTA) : DTL := fun δ S q => t δ S fun xs S1 => match xs with
  | [.int n] => (-(2 ^ 62) ≤ n ∧ n < 2 ^ 62) ∧ q (rangeD 0 n.toNat) (fun _ => True) S1
  | _ => False
@[reducible] def dItR2 (t : DTA) : DTL := fun δ S q => t δ S fun xs S1 => match xs with
  | [.int lo, .int hi] => (-(2 ^ 62) ≤ lo ∧ lo < 2 ^ 62 ∧ -(2 ^ 62) ≤ hi ∧ hi < 2 ^ 62) ∧ q (rangeD lo (hi - lo).toNat) (fun _ => True) S1
  | _ => False
def enumD (l : List Dt) : List Dt := (List.range l.length).zipWith (fun (i : Nat) d => Dt.tup [.int i, d]) l
@[reducible] def dItE (t : DTA) : DTL := fun δ S q => t δ S fun xs S1 => match xs with
  | [.lst l] => q (enumD l) (fun _ => True) S1
  | [.ref a] => ∃ l, S1 a = some (.lst l) ∧ q (enumD l) (fun S => S a = some (.lst l)) S1
  | _ => False
def zipD (l m : List Dt) : List Dt := l.zipWith (fun x y => Dt.tup [x, y]) m
@[reducible] def dItZ (t : DTA) : DTL := fun δ S q => t δ S fun xs S1 => match xs with
  | [x, y] => seeLk x S1 fun l k1 => seeLk y S1 fun m k2 => q (zipD l m) (fun S => k1 S ∧ k2 S) S1
  | _ => False
where
  seeLk (x : Dt) (S : Store) (k : List Dt → (Store → Prop) → Prop) : Prop := match x with
  | .lst l => k l fun _ => True
  | .ref a => ∃ l, S a = some (.lst l) ∧ k l fun S => S a = some (.lst l)
  | _ => False
def signsD (z : Str) : List Dt := z.cps.toList.map fun c => Dt.str ⟨#[c]⟩
@[reducible] def dItS (a : DTE) : DTL := fun δ S q => a δ S fun x S1 => match x with
  | .str z => q (signsD z) (fun _ => True) S1
  | _ => False
/-- the keys, the values, the items of a dict that is locked -/
def keyD : Key → Dt
  | .inl i => .int i
  | .inr z => .str z
@[reducible] def seeLck (x : Dt) (S : Store) (k : List (Key × Dt) → (Store → Prop) → Prop) : Prop := match x with
  | .ref a => ∃ o l, S a = some (.lck o l) ∧ k l fun S => S a = some (.lck o l)
  | _ => False
@[reducible] def dItK (a : DTE) : DTL := fun δ S q => a δ S fun x S1 => seeLck x S1 fun l keep => q (l.map fun p => keyD p.1) keep S1
@[reducible] def dItV (a : DTE) : DTL := fun δ S q => a δ S fun x S1 => seeLck x S1 fun l keep => q (l.map fun p => p.2) keep S1
@[reducible] def dItI (a : DTE) : DTL := fun δ S q => a δ S fun x S1 => seeLck x S1 fun l keep => q (l.map fun p => .tup [keyD p.1, p.2]) keep S1
/-! ## loops -/
def dFor (it : DTL) (g : DTG) (b : DTS) : DTS := fun D δ S => it δ S fun l keep S1 => ∃ I : Nat → DS → Store → Prop, I 0 δ S1 ∧ (∀ i δ S, i ≤ l.length → I i δ S → keep S) ∧
  (∀ i d δ S, l[i]? = some d → I i δ S → g d δ S fun δ' S' => b { D with nx := I (i + 1), ct := I (i + 1), bk := D.nx } δ' S') ∧ ∀ δ S, I l.length δ S → D.nx δ S
def dWhile (c : DTT) (b : DTS) : DTS := fun D δ S => ∃ I : Nat → DS → Store → Prop, (∃ m, I m δ S) ∧ ∀ m δ S, I m δ S →
  c δ S fun k S1 => Ift k (b { D with nx := fun δ S => ∃ m', m' < m ∧ I m' δ S, ct := fun δ S => ∃ m', m' < m ∧ I m' δ S, bk := D.nx } δ S1) (D.nx δ S1)
/-- a dict is walked -/
def dLock (t : DTS) : DTS := fun D δ S => ∃ a l, S a = some (.dic l) ∧ ∀ o, t ⟨fun δ' S' => S' a = some (.lck o l) ∧ D.nx δ' (sput S' a (.dic l)), fun v S' => S' a = some (.lck o l) ∧ D.rt v (sput S' a (.dic l)), fun δ' S' => S' a = some (.lck o l) ∧ D.bk δ' (sput S' a (.dic l)), fun δ' S' => S' a = some (.lck o l) ∧ D.ct δ' (sput S' a (.dic l))⟩ δ (sput S a (.lck o l))
def dLockE (t : DTE) : DTE := fun δ S q => ∃ a l, S a = some (.dic l) ∧ ∀ o, t δ (sput S a (.lck o l)) fun v S' => S' a = some (.lck o l) ∧ q v (sput S' a (.dic l))
/-! ## comprehensions -/
@[reducible] def wipesS : DS → List Nat → DS
  | δ, [] => δ
  | δ, v :: vs => wipeS (wipesS δ vs) v
@[reducible] def dYes : DTT := fun _ S q => q true S
def dLc (it : DTL) (g : DTG) (w : List Nat) (tt : DTT) (te : DTE) (q : List Dt → Store → Prop) : DS → Store → Prop := fun δ S => it δ S fun l keep S1 => l.length < sizeLine ∧ ∃ I : Nat → List Dt → Store → Prop, I 0 [] S1 ∧ (∀ i acc S, i ≤ l.length → I i acc S → keep S) ∧
  (∀ i d acc S, l[i]? = some d → I i acc S → g d (wipesS δ w) S fun δ' S' => tt δ' S' fun b S2 => Ift b (te δ' S2 fun y S3 => I (i + 1) (acc ++ [y]) S3) (I (i + 1) acc S2)) ∧ ∀ acc S, I l.length acc S → q acc S
@[reducible] def dLcF (it : DTL) (g : DTG) (w : List Nat) (tt : DTT) (te : DTE) : DTE := fun δ S q => dLc it g w tt te (fun l S' => q (.lst l) S') δ S
@[reducible] def dLcO (it : DTL) (g : DTG) (w : List Nat) (tt : DTT) (te : DTE) : DTE := fun δ S q => dLc it g w tt te (fun l S' => ∀ p, S' p = none → q (.ref p) (sput S' p (.lst l))) δ S
section
variable {X : Cx} {K : PySem.W.Frag} {E : XK} {e : DX} {pos pos' apos cpos p2 tpos : Pos} {a b c o ex value tg : Expr} {es rest : List Expr} {da db dc dw : DTE} {ta tb : DTT} {ts : DTA} {st : Stmt} {sts sts' : List Stmt} {dt du : DTS} {g : DTG} {gs : DTGs} {it : DTL}
theorem dss_cons (h1 : PS X st (tDS K E e dt)) (h2 : PSs X sts (tDS K E e du)) : PSs X (st :: sts) (tDS K E e (dSeq dt du)) := PSs.imp (pss_cons h1 h2) fun D σ H h => by
  obtain ⟨δ, S, Z, DD, t, h, k⟩ := h
  exact ⟨δ, S, Z, _, t, h, fun σ' δ' H' S' g x s h' => ⟨δ', S', Z, DD, ⟨g, s, t.lk.ext x⟩, h', k.ext x⟩, k.rt, k.bk, k.ct⟩
theorem dss_one (h1 : PS X st (tDS K E e dt)) : PSs X [st] (tDS K E e dt) := pss_one h1
theorem dss_nil : PSs X [] (tDS K E e dNext) := PSs.imp pss_nil fun D σ H h => by
  obtain ⟨δ, S, Z, DD, t, h, k⟩ := h
  exact k.nx _ _ _ _ t.good Ext.refl t.sl h
theorem ds_pass : PS X (.Pass pos) (tDS K E e dNext) := PS.imp ps_pass fun D σ H h => by
  obtain ⟨δ, S, Z, DD, t, h, k⟩ := h
  exact k.nx _ _ _ _ t.good Ext.refl t.sl h
theorem ds_doc {x j} : PS X (.Expr (.Constant (.str x) j pos) pos') (tDS K E e dNext) := PS.imp ps_doc fun D σ H h => by
  obtain ⟨δ, S, Z, DD, t, h, k⟩ := h
  exact k.nx _ _ _ _ t.good Ext.refl t.sl h
theorem ds_break : PS X (.Break pos) (tDS K E e dBreak) := PS.imp ps_break fun D σ H h => by
  obtain ⟨δ, S, Z, DD, t, h, k⟩ := h
  exact k.bk _ _ _ _ t.good Ext.refl t.sl h
theorem ds_continue : PS X (.Continue pos) (tDS K E e dCont) := PS.imp ps_continue fun D σ H h => by
  obtain ⟨δ, S, Z, DD, t, h, k⟩ := h
  exact k.ct _ _ _ _ t.good Ext.refl t.sl h
theorem ds_expr (he : PE X ex (tD K E e da)) (hs : swapsWith ex none pos.line X.env = pure false := by rfl) : PS X (.Expr ex pos) (tDS K E e (dDrop da)) := PS.imp (ps_expr he hs) fun D σ H h => by
  obtain ⟨δ, S, Z, DD, t, h, k⟩ := h
  exact ⟨δ, S, Z, _, t, h, fun v x H1 S1 g1 x1 r1 h1 => k.nx _ _ _ _ g1 x1 (t.sl.ext x1) h1⟩
theorem ds_ret (he : PE X ex (tD K E e da)) : PS X (.Return (some ex) pos) (tDS K E e (dRet da)) := PS.imp (ps_ret he) fun D σ H h => by
  obtain ⟨δ, S, Z, DD, t, h, k⟩ := h
  exact ⟨δ, S, Z, _, t, h, fun v x H1 S1 g1 x1 r1 h1 => k.rt _ _ _ _ g1 x1 r1 h1⟩
theorem ds_retN : PS X (.Return none pos) (tDS K E e dRetN) := PS.imp ps_retN fun D σ H h => by
  obtain ⟨δ, S, Z, DD, t, h, k⟩ := h
  exact k.rt _ .non _ _ t.good Ext.refl rfl h
theorem ds_if (hc : PT X c (tDT K E e ta)) (h1 : PSs X sts (tDS K E e dt)) (h2 : PSs X sts' (tDS K E e du)) : PS X (.If c sts sts' pos) (tDS K E e (dIf ta dt du)) := PS.imp (ps_if hc h1 h2) fun D σ H h => by
  obtain ⟨δ, S, Z, DD, t, h, k⟩ := h
  refine ⟨δ, S, Z, _, t, h, fun b H1 S1 g1 x1 h1 => ?_⟩
  cases b with
  | true => exact iteT ⟨δ, S1, Z, DD, t.to g1 x1, h1, k.ext x1⟩
  | false => exact iteF ⟨δ, S1, Z, DD, t.to g1 x1, h1, k.ext x1⟩
theorem ds_raise {W : WX} {B : String} {t : L2.St → Hp → XK → Prop} {C : Addr} (hc : X.calm = true) (tk : Takes X W) (hW : ∀ cls d σ H, E cls d H → W cls d σ H) (he : PMk X ex fun σ H Q => Q (.ref C) none H) : PS X (.Raise (some ex) none pos) (tDS K E e (dRaise e C)) := PS.imp (ps_raise hc tk he) fun D σ H h => by
  obtain ⟨δ, S, Z, DD, t, h, k⟩ := h
  exact hW _ _ _ _ (t.lk C H S t.good Ext.refl h)
/-! targets -/
theorem dg_name {i : Nat} {x : Str} (hN : X.N.Nodup) (hi : X.N[i]? = some x) (hx : Loc X.env.scope x) (hf : X.fn x = true ∨ X.env.scope.names.lookup x = some .local := by first | exact .inl rfl | exact .inr rfl | assumption) : PG X (.Name x pos) (tDG K E e (dName i)) := ⟨fun pins s σ H v u Q I r h => by
  refine (pg_name (pos := pos) hN hi hx hf).run pins s σ H v u Q I r ?_
  obtain ⟨x, δ, S, Z, n, t, rx, h, k⟩ := h
  exact k _ _ H S t.good Ext.refl (t.sl.put rx) h⟩
theorem dgs_nil : PGs X [] (tDGs K E e dGNil) := ⟨fun pins s σ H v u Q I r h => by
  refine pgs_nil.run pins s σ H v u Q I r ?_
  obtain ⟨x, δ, S, Z, n, t, rx, h, k⟩ := h
  cases x with
  | nil => exact ⟨rx, k σ δ H S t.good Ext.refl t.sl h⟩
  | cons _ _ => exact h.elim⟩
theorem dgs_cons (h1 : PG X a (tDG K E e g)) (h2 : PGs X es (tDGs K E e gs)) (hs : (assignEach (a :: es) X.env).map (·.2) = assign a X.env :: (assignEach es X.env).map (·.2) := by rfl) : PGs X (a :: es) (tDGs K E e (dGCons g gs)) := ⟨fun pins s σ H v u Q I r h => by
  refine (pgs_cons h1 h2 hs).run pins s σ H v u Q I r ?_
  obtain ⟨x, δ, S, Z, n, t, rx, h, k⟩ := h
  cases x with
  | nil => exact h.elim
  | cons d l =>
    obtain ⟨v1, vr, rfl, r1, r2⟩ := rx
    exact ⟨v1, vr, rfl, d, δ, S, Z, _, t, r1, h, fun σ' δ' H' S' g' x' s' h' => ⟨l, δ', S', Z, n, ⟨g', s', t.lk.ext x'⟩, Reps.ext x' _ _ r2, h', fun σ'' δ'' H'' S'' g'' x'' => k σ'' δ'' H'' S'' g'' (x'.trans x'')⟩⟩⟩
theorem dg_tup (hK : X.K = K) {k n : Nat} (hc : X.calm = true) (h : PGs X es (tDGs K E e gs)) (hn : (assignEach es X.env).length = n := by rfl) (hst : (assignEach es X.env).findIdx? (·.1) = none := by rfl) : PG X (.Tuple es k pos) (tDG K E e (dGTup n gs)) := ⟨fun pins s σ H v u Q I r h0 => by
  subst hK
  refine (pg_tup (k := k) (pos := pos) hc h hn hst).run pins s σ H v u Q I r ?_
  obtain ⟨x, δ, S, Z, m, t, rx, h1, k⟩ := h0
  cases x with
  | tup l =>
    obtain ⟨p, vs, rfl, hp, hl⟩ := rx
    obtain ⟨h2, h3⟩ := LenIs.len h1
    exact ⟨p, vs, rfl, SqT.out hp, by rw [← hl.len]; exact h2, l, δ, S, Z, m, t, hl, h3, k⟩
  | _ => exact h1.elim⟩
theorem dg_subL (ho : PE X o (tD K E e da)) (hi : PE X b (tD K E e db))
    (ha : ∀ v, assign (.Subscript o b pos) X.env v = (do
      let ov ← holding [v] (eval o X.env)
      let iv ← holding [v, ov] (eval b X.env)
      standAt pos
      holding [v, ov, iv] (setItem ov iv v)
      release [v, ov, iv] []) := by intro _; rfl) : PG X (.Subscript o b pos) (tDG K E e (dGSubL da db)) := ⟨fun pins s σ H v u Q I r h => by
  refine (pg_sub ho hi set_list ha).run pins s σ H v u Q I r ?_
  obtain ⟨x, δ, S, Z, n, t, rx, h, k⟩ := h
  refine ⟨δ, S, Z, _, t, h, fun v1 x1 H1 S1 g1 y1 r1 h1 => ⟨δ, S1, Z, _, t.to g1 y1, h1, fun v2 x2 H2 S2 g2 y2 r2 h2 => ?_⟩⟩
  cases x1 with
  | ref p =>
    cases x2 with
    | int j =>
      obtain ⟨l, h3, m, h4, h5⟩ := h2
      obtain ⟨ob, h6, vs, rfl, h7⟩ := g2.c p _ h3
      have cr : CRep K (out H2 S2 Z) (.lst (l.set m x)) (.lst (vs.set m v)) := ⟨_, rfl, Reps.pair.mpr (Paired.setp (Rep.ext (y1.trans y2) _ _ rx) m (Reps.pair.mp h7))⟩
      have xx := y1.trans y2
      exact ⟨p, vs, j, m, r1, r2, h6, by rw [← h7.len]; exact h4, k σ δ _ _ (g2.mut h3 cr) (by rw [out_mut h3]; exact xx) (by rw [out_mut h3]; exact t.sl.ext xx) h5⟩
    | _ => exact h2.elim
  | _ => exact h2.elim⟩
theorem dg_subD (hu : X.A.units + 1 < cLine) (ho : PE X o (tD K E e da)) (hi : PE X b (tD K E e db))
    (ha : ∀ v, assign (.Subscript o b pos) X.env v = (do
      let ov ← holding [v] (eval o X.env)
      let iv ← holding [v, ov] (eval b X.env)
      standAt pos
      holding [v, ov, iv] (setItem ov iv v)
      release [v, ov, iv] []) := by intro _; rfl) : PG X (.Subscript o b pos) (tDG K E e (dGSubD da db)) := ⟨fun pins s σ H v u Q I r h => by
  refine (pg_sub ho hi (set_dict hu) ha).run pins s σ H v u Q I r ?_
  obtain ⟨x, δ, S, Z, n, t, rx, h, k⟩ := h
  refine ⟨δ, S, Z, _, t, h, fun v1 x1 H1 S1 g1 y1 r1 h1 => ⟨δ, S1, Z, _, t.to g1 y1, h1, fun v2 x2 H2 S2 g2 y2 r2 h2 => ?_⟩⟩
  cases x1 with
  | ref p =>
    obtain ⟨key, rfl, ko, l, h3, h4, h5⟩ := keyOf_rep r2 h2
    obtain ⟨ob, h6, vs, rfl, h7⟩ := g2.c p _ h3
    have xx := y1.trans y2
    have cr : CRep K (out H2 S2 Z) (.dic (kPut l key x)) (.dK (putK vs key v)) := ⟨_, rfl, Repk.kr.mpr (KR.put (Repk.kr.mp h7) ko (Rep.ext xx _ _ rx))⟩
    exact ⟨p, _, r1, DPut.k h6 (by rw [← h7.len]; exact h4), k σ δ _ _ (g2.mut h3 cr) (by rw [out_mut h3]; exact xx) (by rw [out_mut h3]; exact t.sl.ext xx) h5⟩
  | _ => exact h2.elim⟩
theorem ds_asg (he : PE X ex (tD K E e da)) (hg : PG X tg (tDG K E e g)) (hs : swapsWithSole [tg] ex pos.line X.env = pure false := by rfl) (hw : swappedStores [tg] ex X.env = pure none := by rfl)
    (h1 : (assignEach [tg] X.env).map (·.2) = [assign tg X.env] := by rfl) : PS X (.Assign [tg] ex pos) (tDS K E e (dAsg da g)) := PS.imp (ps_asg he hg hs hw h1) fun D σ H h => by
  obtain ⟨δ, S, Z, DD, t, h, k⟩ := h
  exact ⟨δ, S, Z, _, t, h, fun v x H1 S1 g1 x1 r1 h1 => ⟨x, δ, S1, Z, _, t.to g1 x1, r1, h1, fun σ' δ' H' S' g' x' s' h' => k.nx σ' δ' H' S' g' (x1.trans x') s' h'⟩⟩
theorem ds_set {i : Nat} {x : Str} (hN : X.N.Nodup) (hi : X.N[i]? = some x) (hx : Loc X.env.scope x) (he : PE X ex (tD K E e da)) (hs : swapsWith ex (some (.Name x pos')) pos.line X.env = pure false := by rfl) (hf : X.fn x = true ∨ X.env.scope.names.lookup x = some .local := by first | exact .inl rfl | exact .inr rfl | assumption) :
    PS X (.Assign [.Name x pos'] ex pos) (tDS K E e (dAsg da (dName i))) := PS.imp (ps_set hN hi hx he hs hf) fun D σ H h => by
  obtain ⟨δ, S, Z, DD, t, h, k⟩ := h
  exact ⟨δ, S, Z, _, t, h, fun v x H1 S1 g1 x1 r1 h1 => k.nx _ _ _ _ g1 x1 ((t.sl.ext x1).put r1) h1⟩
/-- a, b = e1, e2 -/
@[reducible] def dPar (i j : Nat) (t : DTA) : DTS := fun D δ S => t δ S fun xs S1 => match xs with
  | [x, y] => D.nx (putS (putS δ i x) j y) S1
  | _ => False
theorem ds_par {i j : Nat} {x y : Str} {px py pt : Pos} {kt k2 pt2} (hc : X.calm = true) (hN : X.N.Nodup) (hi : X.N[i]? = some x) (hj : X.N[j]? = some y) (hij : i ≠ j)
    (hx : X.env.scope.names.lookup x = some .local) (hy : X.env.scope.names.lookup y = some .local) (ha : PA X [a, b] (tDA K E e ts))
    (hw : swappedStores [.Tuple [.Name x px, .Name y py] kt pt] (.Tuple [a, b] k2 pt2) X.env = pure (some [x, y]))
    (hs : swapsWithSole [.Tuple [.Name x px, .Name y py] kt pt] (.Tuple [a, b] k2 pt2) pos.line X.env = pure false := by rfl) :
    PS X (.Assign [.Tuple [.Name x px, .Name y py] kt pt] (.Tuple [a, b] k2 pt2) pos) (tDS K E e (dPar i j ts)) := PS.imp (ps_par hc hN hi hj hij hx hy ha hw hs) fun D σ H h => by
  obtain ⟨δ, S, Z, DD, t, h, k⟩ := h
  refine ⟨δ, S, Z, _, t, h, fun vs xs H1 S1 g1 x1 r1 h1 => ?_⟩
  match xs, h1 with
  | [x, y], h1 =>
    obtain ⟨v, _, rfl, rv, w, _, rfl, rw', rfl⟩ := r1
    exact ⟨v, w, rfl, k.nx _ _ _ _ g1 x1 (((t.sl.ext x1).put rv).put rw') h1⟩
/-- x op= e -/
@[reducible] def dAug (i : Nat) (dr : D2) (a : DTE) : DTS := fun D δ S => match look δ i with
  | some x => a δ S fun y S1 => dr x y S1 fun z S2 => D.nx (putS δ i z) S2
  | none => False
theorem ds_aug {i : Nat} {x : Str} {op : Operator} {dr : D2} (hN : X.N.Nodup) (hi : X.N[i]? = some x) (hx : Loc X.env.scope x) (he : PE X ex (tD K E e da)) (ho : PIp X op (rD K dr)) (hf : X.fn x = true ∨ X.env.scope.names.lookup x = some .local := by first | exact .inl rfl | exact .inr rfl | assumption) :
    PS X (.AugAssign (.Name x pos') op ex pos) (tDS K E e (dAug i dr da)) := PS.imp (ps_aug hN hi hx he ho hf) fun D σ H h => by
  obtain ⟨δ, S, Z, DD, t, h, k⟩ := h
  cases hl : look δ i with
  | none => simp only [dAug, hl] at h
  | some d =>
    simp only [dAug, hl] at h
    obtain ⟨v, h1, h2⟩ := t.sl.look hl
    refine ⟨v, h1, δ, S, Z, _, t, h, fun w y H1 S1 g1 x1 r1 h3 => ⟨d, y, S1, Z, _, g1, Rep.ext x1 _ _ h2, r1, h3, fun u z H2 S2 g2 x2 r2 h4 => ?_⟩⟩
    exact k.nx _ _ _ _ g2 (x1.trans x2) ((t.sl.ext (x1.trans x2)).put r2) h4
/-! loops -/
theorem ds_for {body : List Stmt} (hp : PassesOwn (model X.prog X.w) X.A X.env X.xe) (hc : X.calm = true) (hi : PI X tg ex (tDI K E e it)) (hg : PG X tg (tDG K E e g)) (hb : PSs X body (tDS K E e dt)) (hs : ∀ x, foldedSetIterable ex X.env x = pure x := by intro _; rfl) :
    PS X (.For tg ex body [] pos) (tDS K E e (dFor it g dt)) := PS.imp (ps_for hp hc hi hg hb hs) fun D σ H h => by
  obtain ⟨δ, S, Z, DD, t, h, k⟩ := h
  refine ⟨δ, S, Z, _, t, h, fun l keep H1 S1 J g1 x1 ok h1 => ?_⟩
  obtain ⟨I, h0, hk, hs, hd⟩ := h1
  have t1 := t.to g1 x1
  refine for_it (n := l.length) (G := fun H => ∃ S, Good K Z H S ∧ Ext (out H1 S1 Z) (out H S Z) ∧ keep S) (Y := fun i H x H' => J.yld i H x H') ⟨fun i H hi ⟨S, g, x, kp⟩ => ok.go Z i H S g x kp hi, fun H ⟨S, g, x, kp⟩ => ok.stop Z H S g x kp, fun i H x H' _ _ y => y⟩
    (fun i σ H => ∃ δ S, Good K Z H S ∧ Ext (out H1 S1 Z) (out H S Z) ∧ Slots K (out H S Z) σ δ ∧ I i δ S) ⟨δ, S1, g1, Ext.refl, t1.sl, h0⟩ (fun i σ H hi ⟨δ, S, g, x, s, q⟩ => ⟨S, g, x, hk i δ S hi q⟩) (fun i x σ H H' hi hh y => ?_) (fun σ H ⟨δ, S, g, x, s, q⟩ => k.nx _ _ _ _ g (x1.trans x) s (hd δ S q))
  obtain ⟨δ2, S2, g2, x2, s2, q2⟩ := hh
  obtain ⟨d, e1, g3, x3, r3⟩ := ok.yld Z i H S2 x H' g2 x2 (hk i δ2 S2 (Nat.le_of_lt hi) q2) hi y
  have x23 := x2.trans x3
  refine ⟨d, δ2, S2, Z, _, ⟨g3, s2.ext x3, t1.lk.ext x23⟩, r3, hs i d δ2 S2 e1 q2, fun σ' δ' H' S' g' x' s' h' => ⟨δ', S', Z, _, ⟨g', s', t1.lk.ext (x23.trans x')⟩, h', ?_⟩⟩
  have x4 := x23.trans x'
  exact ⟨fun σ δ H S g x s q => ⟨δ, S, g, x4.trans x, s, q⟩, fun v d H S g x r q => k.rt v d H S g (x1.trans (x4.trans x)) r q, fun σ δ H S g x s q => k.nx σ δ H S g (x1.trans (x4.trans x)) s q, fun σ δ H S g x s q => ⟨δ, S, g, x4.trans x, s, q⟩⟩
theorem ds_while {body : List Stmt} (hp : PassesOwn (model X.prog X.w) X.A X.env X.xe) (hc : PT X c (tDT K E e ta)) (hb : PSs X body (tDS K E e dt)) : PS X (.While c body [] pos) (tDS K E e (dWhile ta dt)) := PS.imp (ps_while hp hc hb) fun D σ H h => by
  obtain ⟨δ, S, Z, DD, t, ⟨I, ⟨m, h0⟩, hs⟩, k⟩ := h
  refine ⟨fun m σ H' => ∃ δ S', Good K Z H' S' ∧ Ext (out H S Z) (out H' S' Z) ∧ Slots K (out H' S' Z) σ δ ∧ I m δ S', ⟨m, δ, S, t.good, Ext.refl, t.sl, h0⟩, fun m σ H1 hh => ?_⟩
  obtain ⟨δ1, S1, g1, x1, s1, q1⟩ := hh
  refine ⟨δ1, S1, Z, _, ⟨g1, s1, t.lk.ext x1⟩, hs m δ1 S1 q1, fun b H2 S2 g2 x2 h2 => ?_⟩
  have x12 := x1.trans x2
  cases b with
  | false => exact iteF (k.nx _ _ _ _ g2 x12 (s1.ext x2) h2)
  | true =>
    refine iteT ⟨fun σ H' => ∃ m', m' < m ∧ ∃ δ S', Good K Z H' S' ∧ Ext (out H S Z) (out H' S' Z) ∧ Slots K (out H' S' Z) σ δ ∧ I m' δ S', fun σ' H' q => q, δ1, S2, Z, _, ⟨g2, s1.ext x2, t.lk.ext x12⟩, h2, ?_⟩
    exact ⟨fun σ δ H S g x s ⟨m', l, q⟩ => ⟨m', l, δ, S, g, x12.trans x, s, q⟩, fun v d H S g x r q => k.rt v d H S g (x12.trans x) r q, fun σ δ H S g x s q => k.nx σ δ H S g (x12.trans x) s q, fun σ δ H S g x s ⟨m', l, q⟩ => ⟨m', l, δ, S, g, x12.trans x, s, q⟩⟩
end
end Dn

namespace Dn
open PySem PySem.Spec PyProof.Rows L2 Pr
section
variable {K : PySem.W.Frag} {Z G : Hp}
theorem ok_lst {a : Addr} {vs : List V} {l : List Dt} (h : G a = some (.lst vs)) (r : Reps K G l vs) : ItOk K G (Itl K a) l (fun _ => True) :=
  ⟨fun Z i H S g x _ hi => by
    obtain ⟨v, hv⟩ : ∃ v, vs[i]? = some v := ⟨vs[i]'(by rw [← r.len]; exact hi), List.getElem?_eq_getElem _⟩
    exact ⟨vs, v, SqL.of (out_le (x.lst h)), hv⟩,
   fun Z H S g x _ => ⟨vs, SqL.of (out_le (x.lst h)), by rw [r.len]; exact Nat.le_refl _⟩,
   fun Z i H S x H' g e _ hi y => by
    obtain ⟨rfl, y⟩ := y
    have hv := y vs (SqL.of (out_le (e.lst h)))
    obtain ⟨d, h1, h2⟩ := Paired.get' (Reps.pair.mp r) hv
    exact ⟨d, h1, g, Ext.refl, Rep.ext e _ _ h2⟩⟩
theorem ok_tup {a : Addr} {vs : List V} {l : List Dt} (h : SqT K G a vs) (r : Reps K G l vs) : ItOk K G (Itt K a) l (fun _ => True) :=
  ⟨fun Z i H S g x _ hi => by
    obtain ⟨v, hv⟩ : ∃ v, vs[i]? = some v := ⟨vs[i]'(by rw [← r.len]; exact hi), List.getElem?_eq_getElem _⟩
    exact ⟨vs, v, SqT.out (x.tup h), hv⟩,
   fun Z H S g x _ => ⟨vs, SqT.out (x.tup h), by rw [r.len]; exact Nat.le_refl _⟩,
   fun Z i H S x H' g e _ hi y => by
    obtain ⟨rfl, y⟩ := y
    have hv := y vs (SqT.out (e.tup h))
    obtain ⟨d, h1, h2⟩ := Paired.get' (Reps.pair.mp r) hv
    exact ⟨d, h1, g, Ext.refl, Rep.ext e _ _ h2⟩⟩
/-- a list that is a cell, unchanged while it is walked -/
theorem ok_cell {a : Addr} {l : List Dt} : ItOk K G (Itl K a) l (fun S => S a = some (.lst l)) :=
  ⟨fun Z i H S g x kp hi => by
    obtain ⟨o, h1, vs, rfl, r⟩ := g.c a _ kp
    obtain ⟨v, hv⟩ : ∃ v, vs[i]? = some v := ⟨vs[i]'(by rw [← r.len]; exact hi), List.getElem?_eq_getElem _⟩
    exact ⟨vs, v, SqL.of h1, hv⟩,
   fun Z H S g x kp => by
    obtain ⟨o, h1, vs, rfl, r⟩ := g.c a _ kp
    exact ⟨vs, SqL.of h1, by rw [r.len]; exact Nat.le_refl _⟩,
   fun Z i H S x H' g e kp hi y => by
    obtain ⟨rfl, y⟩ := y
    obtain ⟨o, h1, vs, rfl, r⟩ := g.c a _ kp
    obtain ⟨d, h2, h3⟩ := Paired.get' (Reps.pair.mp r) (y vs (SqL.of h1))
    exact ⟨d, h2, g, Ext.refl, h3⟩⟩
theorem ok_range {lo : Int} {n : Nat} : ItOk K G (Itr lo n) (rangeD lo n) (fun _ => True) :=
  ⟨fun Z i H S g x _ hi => by
    unfold rangeD at hi
    rw [List.length_map, List.length_range] at hi
    exact hi,
   fun Z H S g x _ => by
    show n ≤ _
    unfold rangeD
    rw [List.length_map, List.length_range]
    exact Nat.le_refl _,
   fun Z i H S x H' g e _ hi y => by
    obtain ⟨rfl, rfl⟩ := y
    unfold rangeD at hi ⊢
    rw [List.length_map, List.length_range] at hi
    refine ⟨.int (lo + i), ?_, g, Ext.refl, rfl⟩
    rw [List.getElem?_map, List.getElem?_range hi]
    rfl⟩
theorem ok_str {z : Str} (h : SOk z) : ItOk K G (Its z) (signsD z) (fun _ => True) := by
  have w := walk_str (z := z)
  have hl : (signsD z).length = z.cps.size := by unfold signsD; rw [List.length_map, Array.length_toList]
  refine ⟨fun Z i H S g x _ hi => w.goes i H (by rw [← hl]; exact hi) trivial, fun Z H S g x _ => by rw [hl]; exact w.stops H trivial, fun Z i H S x H' g e _ hi y => ?_⟩
  obtain ⟨rfl, c, hc, rfl⟩ := w.yields i H x H' (by rw [← hl]; exact hi) trivial y
  refine ⟨.str ⟨#[c]⟩, ?_, g, Ext.refl, rfl, h.sign ?_⟩
  · unfold signsD
    rw [List.getElem?_map, Array.getElem?_toList, hc]
    rfl
  · exact Array.mem_toList_iff.mpr (Array.mem_of_getElem? hc)
theorem enumD_len (l : List Dt) : (enumD l).length = l.length := by unfold enumD; rw [List.length_zipWith, List.length_range, Nat.min_self]
theorem enumD_get (l : List Dt) (i : Nat) : (enumD l)[i]? = l[i]?.map fun d => .tup [.int i, d] := by
  unfold enumD
  rw [List.getElem?_zipWith]
  by_cases h : i < l.length
  · rw [List.getElem?_range h, List.getElem?_eq_getElem h]
    rfl
  · rw [List.getElem?_eq_none (by rw [List.length_range]; omega), List.getElem?_eq_none (l := l) (by omega)]
    rfl
/-- new pairs -/
theorem ok_pair {J : It} {l : List Dt} {keep : Store → Prop} {Gd : Hp → Prop} {f g : Nat → Option V} {dl dm : List Dt} (w : Walk J l.length Gd (YPair f g)) (hg : ∀ Z H S, Good K Z H S → Ext G (out H S Z) → keep S → Gd H)
    (hy : ∀ Z i H S x y, Good K Z H S → Ext G (out H S Z) → keep S → f i = some x → g i = some y → ∃ dx dy, l[i]? = some (.tup [dx, dy]) ∧ Rep K (out H S Z) dx x ∧ Rep K (out H S Z) dy y) : ItOk K G J l keep := by
  refine ⟨fun Z i H S g x k hi => w.goes i H hi (hg Z H S g x k), fun Z H S g x k => w.stops H (hg Z H S g x k), fun Z i H S x H' gd e k hi y => ?_⟩
  obtain ⟨T, u, v, rfl, nT, rfl, h1, h2⟩ := w.yields i H x H' hi (hg Z H S gd e k) y
  obtain ⟨dx, dy, h3, h4, h5⟩ := hy Z i H S u v gd e k h1 h2
  refine ⟨_, h3, gd.new nT, ext_new gd nT, T, [u, v], rfl, SqT.of (out_new gd nT), u, [v], rfl, Rep.ext (ext_new gd nT) _ _ h4, v, [], rfl, Rep.ext (ext_new gd nT) _ _ h5, rfl⟩
theorem ok_enum {a : Addr} {vs : List V} {l : List Dt} (h : G a = some (.lst vs)) (r : Reps K G l vs) : ItOk K G (Ite K a) (enumD l) (fun _ => True) := by
  refine ok_pair (dl := []) (dm := []) (Gd := fun H => SqL K H a vs) (f := fun i => some (.int (i : Nat))) (g := fun i => vs[i]?) (by rw [enumD_len, r.len]; exact walk_enum) (fun Z H S g x _ => SqL.of (out_le (x.lst h))) fun Z i H S x y g e _ h1 h2 => ?_
  cases h1
  obtain ⟨d, h3, h4⟩ := Paired.get' (Reps.pair.mp r) h2
  exact ⟨.int i, d, by rw [enumD_get, h3]; rfl, rfl, Rep.ext e _ _ h4⟩
theorem ok_enumC {a : Addr} {l : List Dt} {H0 : Hp} {S0 : Store} (g0 : Good K Z H0 S0) (h0 : S0 a = some (.lst l)) (e0 : G = out H0 S0 Z) {vs : List V} (hv : H0 a = some (.lst vs)) (hl : l.length = vs.length) : ItOk K G (Ite K a) (enumD l) (fun S => S a = some (.lst l)) := by
  refine ⟨fun Z i H S g x kp hi => ?_, fun Z H S g x kp => ?_, fun Z i H S x H' g e kp hi y => ?_⟩
  · obtain ⟨o, h1, ws, rfl, r⟩ := g.c a _ kp
    rw [enumD_len] at hi
    exact ⟨ws, ws[i]'(by rw [← r.len]; exact hi), SqL.of h1, List.getElem?_eq_getElem _⟩
  · obtain ⟨o, h1, ws, rfl, r⟩ := g.c a _ kp
    exact ⟨ws, SqL.of h1, by rw [enumD_len, r.len]; exact Nat.le_refl _⟩
  · obtain ⟨o, h1, ws, rfl, r⟩ := g.c a _ kp
    obtain ⟨T, u, rfl, nT, rfl, h2⟩ := y
    obtain ⟨d, h3, h4⟩ := Paired.get' (Reps.pair.mp r) (h2 ws (SqL.of h1))
    exact ⟨.tup [.int i, d], by rw [enumD_get, h3]; rfl, g.new nT, ext_new g nT, T, [.int i, u], rfl, SqT.of (out_new g nT), .int i, [u], rfl, rfl, u, [], rfl, Rep.ext (ext_new g nT) _ _ h4, rfl⟩
/-! a dict that is locked -/
theorem key_rep {G : Hp} {k : Key} (h : KOk k) : Rep K G (keyD k) (kV k) := by
  cases k with
  | inl i => exact rfl
  | inr z => exact ⟨rfl, h⟩
theorem lck_at {H : Hp} {S : Store} {a : Addr} {u : HO} {l : List (Key × Dt)} (g : Good K Z H S) (h : S a = some (.lck u l)) : ∃ ob kvs, u = .frz ob (.dK kvs) ∧ H a = some u ∧ KR KOk K (out H S Z) l kvs := by
  obtain ⟨o, h1, rfl, ob, kvs, e, r⟩ := g.c a _ h
  exact ⟨ob, kvs, e, h1, Repk.kr.mp r⟩
/-- one thing for each entry -/
theorem ok_lck {J : It} {a : Addr} {ob : Obj} {kvs : List (Key × V)} {l : List (Key × Dt)} {f : Key × Dt → Dt} {Y : Nat → Hp → V → Hp → Prop} (w : Walk J kvs.length (fun H => H a = some (.frz ob (.dK kvs))) Y) (hl : l.length = kvs.length)
    (hy : ∀ Z i H S x H' p v, Good K Z H S → l[i]? = some p → kvs[i]? = some (p.1, v) → KOk p.1 → Rep K (out H S Z) p.2 v → Y i H x H' → Good K Z H' S ∧ Ext (out H S Z) (out H' S Z) ∧ Rep K (out H' S Z) (f p) x) :
    ItOk K G J (l.map f) (fun S => S a = some (.lck (.frz ob (.dK kvs)) l)) := by
  have at_ : ∀ Z H S, Good K Z H S → S a = some (.lck (.frz ob (.dK kvs)) l) → H a = some (.frz ob (.dK kvs)) ∧ KR KOk K (out H S Z) l kvs := fun Z H S g kp => by
    obtain ⟨ob', kvs', e, h1, h2⟩ := lck_at g kp
    cases e
    exact ⟨h1, h2⟩
  refine ⟨fun Z i H S g x kp hi => w.goes i H (by rw [← hl]; simpa using hi) (at_ Z H S g kp).1, fun Z H S g x kp => by rw [List.length_map, hl]; exact w.stops H (at_ Z H S g kp).1, fun Z i H S x H' g e kp hi y => ?_⟩
  rw [List.length_map] at hi
  obtain ⟨h1, h2⟩ := at_ Z H S g kp
  have y := w.yields i H x H' (by rw [← hl]; exact hi) h1 y
  have e1 : l[i]? = some l[i] := List.getElem?_eq_getElem hi
  obtain ⟨q, h3, h4, h5, h6⟩ := Paired.get h2 e1
  obtain ⟨q1, q2⟩ := q
  cases h4
  obtain ⟨g', e', r'⟩ := hy Z i H S x H' _ q2 g e1 h3 h5 h6 y
  exact ⟨_, by rw [List.getElem?_map, e1]; rfl, g', e', r'⟩
end
section
variable {X : Cx} {K : PySem.W.Frag} {E : XK} {e : DX} {pos p apos cpos : Pos} {a b ex tg : Expr} {da db : DTE} {ts : DTA} {dt : DTS}
theorem di_lst (hK : X.K = K) (ha : PE X ex (tD K E e da)) : PI X tg ex (tDI K E e (dItLs da)) := ⟨fun pins s σ H R I h => by
  refine (pi_listK hK ha).run pins s σ H R I ?_
  obtain ⟨δ, S, Z, q, t, h, k⟩ := h
  refine ⟨δ, S, Z, _, t, h, fun v x H1 S1 g1 x1 r1 h1 => ?_⟩
  cases x with
  | lst l =>
    obtain ⟨a, vs, rfl, h2, h3⟩ := r1
    exact ⟨a, rfl, ⟨vs, SqL.of (out_le h2)⟩, k l _ H1 S1 _ g1 x1 (ok_lst h2 h3) h1⟩
  | ref a =>
    obtain ⟨l, h2, h3⟩ := h1
    obtain ⟨o, h4, vs, rfl, h5⟩ := g1.c a _ h2
    exact ⟨a, r1, ⟨vs, SqL.of h4⟩, k l _ H1 S1 _ g1 x1 ok_cell h3⟩
  | _ => exact h1.elim⟩
theorem di_tup (hK : X.K = K) (ha : PE X ex (tD K E e da)) : PI X tg ex (tDI K E e (dItT da)) := ⟨fun pins s σ H R I h => by
  refine (pi_tupK hK ha).run pins s σ H R I ?_
  obtain ⟨δ, S, Z, q, t, h, k⟩ := h
  refine ⟨δ, S, Z, _, t, h, fun v x H1 S1 g1 x1 r1 h1 => ?_⟩
  cases x with
  | tup l =>
    obtain ⟨a, vs, rfl, h2, h3⟩ := r1
    exact ⟨a, rfl, ⟨vs, SqT.out h2⟩, k l _ H1 S1 _ g1 x1 (ok_tup h2 h3) h1⟩
  | _ => exact h1.elim⟩
theorem di_str (ha : PE X ex (tD K E e da)) : PI X tg ex (tDI K E e (dItS da)) := ⟨fun pins s σ H R I h => by
  refine (pi_str ha).run pins s σ H R I ?_
  obtain ⟨δ, S, Z, q, t, h, k⟩ := h
  refine ⟨δ, S, Z, _, t, h, fun v x H1 S1 g1 x1 r1 h1 => ?_⟩
  cases x with
  | str z => exact ⟨z, r1.1, k _ _ H1 S1 _ g1 x1 (ok_str r1.2) h1⟩
  | _ => exact h1.elim⟩
theorem reps1 {K : PySem.W.Frag} {G : Hp} {d : Dt} {vs : List V} (h : Reps K G [d] vs) : ∃ v, vs = [v] ∧ Rep K G d v := by
  obtain ⟨v, _, rfl, r, rfl⟩ := h
  exact ⟨v, rfl, r⟩
theorem reps2 {K : PySem.W.Frag} {G : Hp} {d c : Dt} {vs : List V} (h : Reps K G [d, c] vs) : ∃ v w, vs = [v, w] ∧ Rep K G d v ∧ Rep K G c w := by
  obtain ⟨v, _, rfl, r, w, _, rfl, r2, rfl⟩ := h
  exact ⟨v, w, rfl, r, r2⟩
theorem reps3 {K : PySem.W.Frag} {G : Hp} {d c f : Dt} {vs : List V} (h : Reps K G [d, c, f] vs) : ∃ v w u, vs = [v, w, u] ∧ Rep K G d v ∧ Rep K G c w ∧ Rep K G f u := by
  obtain ⟨v, _, rfl, r, w, _, rfl, r2, u, _, rfl, r3, rfl⟩ := h
  exact ⟨v, w, u, rfl, r, r2, r3⟩
theorem di_range1 (hg : Gl X "range") (hm : X.mg "range" = none) (ha : PA X [a] (tDA K E e ts)) (hs : starEach [a] X.env = [(false, eval a X.env)] := by rfl) : PI X tg (.Call (.Name "range" p) [a] [] pos) (tDI K E e (dItR1 ts)) := ⟨fun pins s σ H R I h => by
  refine (pi_range1 (pos := pos) hg hm ha hs).run pins s σ H R I ?_
  obtain ⟨δ, S, Z, q, t, h, k⟩ := h
  refine ⟨δ, S, Z, _, t, h, fun vs xs H1 S1 g1 x1 r1 h1 => ?_⟩
  match xs, h1 with
  | [.int n], h1 =>
    obtain ⟨v, rfl, rv⟩ := reps1 r1
    exact ⟨n, by rw [show v = _ from rv], h1.1.1, h1.1.2, k _ _ H1 S1 _ g1 x1 ok_range h1.2⟩⟩
theorem di_range2 (hg : Gl X "range") (hm : X.mg "range" = none) (ha : PA X [a, b] (tDA K E e ts)) (hs : starEach [a, b] X.env = [(false, eval a X.env), (false, eval b X.env)] := by rfl) (hs2 : starEach [b] X.env = [(false, eval b X.env)] := by rfl) :
    PI X tg (.Call (.Name "range" p) [a, b] [] pos) (tDI K E e (dItR2 ts)) := ⟨fun pins s σ H R I h => by
  refine (pi_range2 (pos := pos) hg hm ha hs hs2).run pins s σ H R I ?_
  obtain ⟨δ, S, Z, q, t, h, k⟩ := h
  refine ⟨δ, S, Z, _, t, h, fun vs xs H1 S1 g1 x1 r1 h1 => ?_⟩
  match xs, h1 with
  | [.int lo, .int hi], h1 =>
    obtain ⟨v, w, rfl, rv, rw'⟩ := reps2 r1
    exact ⟨lo, hi, by rw [show v = _ from rv, show w = _ from rw'], h1.1, k _ _ H1 S1 _ g1 x1 ok_range h1.2⟩⟩
theorem di_enum (hK : X.K = K) {elts : List Expr} {kk : Nat} {tpos : Pos} (hg : Gl X "enumerate") (hm : X.mg "enumerate" = none) (ha : PA X [a] (tDA K E e ts)) (hs : starEach [a] X.env = [(false, eval a X.env)] := by rfl) :
    PI X (.Tuple elts kk tpos) (.Call (.Name "enumerate" p) [a] [] pos) (tDI K E e (dItE ts)) := ⟨fun pins s σ H R I h => by
  subst hK
  refine (pi_enum (pos := pos) hg hm ha hs).run pins s σ H R I ?_
  obtain ⟨δ, S, Z, q, t, h, k⟩ := h
  refine ⟨δ, S, Z, _, t, h, fun vs xs H1 S1 g1 x1 r1 h1 => ?_⟩
  match xs, h1 with
  | [.lst l], h1 =>
    obtain ⟨v, rfl, rv⟩ := reps1 r1
    obtain ⟨a, ws, rfl, h2, h3⟩ := rv
    exact ⟨a, ws, rfl, SqL.of (out_le h2), k _ _ H1 S1 _ g1 x1 (ok_enum h2 h3) h1⟩
  | [.ref a], h1 =>
    obtain ⟨v, rfl, rv⟩ := reps1 r1
    obtain ⟨l, h2, h3⟩ := h1
    obtain ⟨o, h4, ws, rfl, h5⟩ := g1.c a _ h2
    exact ⟨a, ws, by rw [show v = _ from rv], SqL.of h4, k _ _ H1 S1 _ g1 x1 (ok_enumC g1 h2 rfl h4 h5.len) h3⟩⟩
theorem di_keys (ha : PE X ex (tD K E e da)) : PI X tg ex (tDI K E e (dItK da)) := ⟨fun pins s σ H R I h => by
  refine (pi_keys ha).run pins s σ H R I ?_
  obtain ⟨δ, S, Z, q, t, h, k⟩ := h
  refine ⟨δ, S, Z, _, t, h, fun v x H1 S1 g1 x1 r1 h1 => ?_⟩
  cases x with
  | ref a =>
    obtain ⟨u, l, h2, h3⟩ := h1
    obtain ⟨ob, kvs, rfl, h4, h5⟩ := lck_at g1 h2
    refine ⟨a, ob, r1, .inl ⟨kvs, h4, k _ _ H1 S1 _ g1 x1 (ok_lck (f := fun p => keyD p.1) walk_keys h5.len fun Z i H S x H' p v g e1 e2 ko r y => ?_) h3⟩⟩
    obtain ⟨rfl, k', v', e3, rfl⟩ := y
    rw [e2] at e3
    cases e3
    exact ⟨g, Ext.refl, key_rep ko⟩
  | _ => exact h1.elim⟩
theorem di_values (ha : PE X a (tD K E e da)) (hbase : attributeBase a "values" X.env (eval a X.env) = eval a X.env := by rfl) (hline : (apos.endLine == cpos.line) = true := by rfl) : PI X tg (.Call (.Attribute a "values" apos) [] [] cpos) (tDI K E e (dItV da)) := ⟨fun pins s σ H R I h => by
  refine (pi_values ha hbase hline).run pins s σ H R I ?_
  obtain ⟨δ, S, Z, q, t, h, k⟩ := h
  refine ⟨δ, S, Z, _, t, h, fun v x H1 S1 g1 x1 r1 h1 => ?_⟩
  cases x with
  | ref a =>
    obtain ⟨u, l, h2, h3⟩ := h1
    obtain ⟨ob, kvs, rfl, h4, h5⟩ := lck_at g1 h2
    refine ⟨a, ob, kvs, r1, h4, k _ _ H1 S1 _ g1 x1 (ok_lck (f := fun p => p.2) walk_values h5.len fun Z i H S x H' p v g e1 e2 ko r y => ?_) h3⟩
    obtain ⟨rfl, k', e3⟩ := y
    rw [e2] at e3
    cases e3
    exact ⟨g, Ext.refl, r⟩
  | _ => exact h1.elim⟩
theorem di_items {elts : List Expr} {kk : Nat} {tpos : Pos} (ha : PE X a (tD K E e da)) (hbase : attributeBase a "items" X.env (eval a X.env) = eval a X.env := by rfl) (hline : (apos.endLine == cpos.line) = true := by rfl) :
    PI X (.Tuple elts kk tpos) (.Call (.Attribute a "items" apos) [] [] cpos) (tDI K E e (dItI da)) := ⟨fun pins s σ H R I h => by
  refine (pi_items ha hbase hline).run pins s σ H R I ?_
  obtain ⟨δ, S, Z, q, t, h, k⟩ := h
  refine ⟨δ, S, Z, _, t, h, fun v x H1 S1 g1 x1 r1 h1 => ?_⟩
  cases x with
  | ref a =>
    obtain ⟨u, l, h2, h3⟩ := h1
    obtain ⟨ob, kvs, rfl, h4, h5⟩ := lck_at g1 h2
    refine ⟨a, ob, kvs, r1, h4, k _ _ H1 S1 _ g1 x1 (ok_lck (f := fun p => .tup [keyD p.1, p.2]) walk_items h5.len fun Z i H S x H' p v g e1 e2 ko r y => ?_) h3⟩
    obtain ⟨T, y1, y2, rfl, nT, rfl, h6, h7⟩ := y
    simp only [e2, Option.map_some, Option.some.injEq] at h6 h7
    subst h6 h7
    exact ⟨g.new nT, ext_new g nT, T, _, rfl, SqT.of (out_new g nT), _, _, rfl, key_rep ko, _, _, rfl, Rep.ext (ext_new g nT) _ _ r, rfl⟩
  | _ => exact h1.elim⟩
/-! locks -/
theorem ds_lock {st : Stmt} (h : PS X st (tDS K E e dt)) : PS X st (tDS K E e (dLock dt)) := PS.imp (ps_lock h) fun D σ H h => by
  obtain ⟨δ, S, Z, DD, t, ⟨a, l, h1, h2⟩, k⟩ := h
  obtain ⟨ob, h3, kvs, rfl, h4⟩ := t.good.c a _ h1
  refine ⟨a, _, h3, trivial, fun od => ?_⟩
  have cr : CRep K (out H S Z) (.lck (.frz od (.dK kvs)) l) (.frz od (.dK kvs)) := ⟨rfl, od, kvs, rfl, h4⟩
  have g1 := t.good.mut h1 cr
  have o1 := out_mut (H := H) (Z := Z) (o := .frz od (.dK kvs)) (c' := .lck (.frz od (.dK kvs)) l) h1
  refine ⟨δ, _, Z, _, ⟨g1, by rw [o1]; exact t.sl, by rw [o1]; exact t.lk⟩, h2 (.frz od (.dK kvs)), ?_⟩
  rw [o1]
  have back : ∀ H' S', Good K Z H' S' → Ext (out H S Z) (out H' S' Z) → S' a = some (.lck (.frz od (.dK kvs)) l) → H' a = some (.frz od (.dK kvs)) ∧ Good K Z (upd H' a (.dK kvs)) (sput S' a (.dic l)) ∧ out (upd H' a (.dK kvs)) (sput S' a (.dic l)) Z = out H' S' Z := fun H' S' g x e => by
    obtain ⟨ob', kvs', e1, e2, e3⟩ := lck_at g e
    cases e1
    exact ⟨e2, g.mut e ⟨kvs, rfl, Repk.kr.mpr e3⟩, out_mut e⟩
  refine ⟨fun σ' δ' H' S' g x s ⟨e, q⟩ => ?_, fun v d H' S' g x r ⟨e, q⟩ => ?_, fun σ' δ' H' S' g x s ⟨e, q⟩ => ?_, fun σ' δ' H' S' g x s ⟨e, q⟩ => ?_⟩
  all_goals
    obtain ⟨e1, g2, o2⟩ := back H' S' g x e
    refine ⟨e1, ?_⟩
  · exact k.nx _ _ _ _ g2 (by rw [o2]; exact x) (by rw [o2]; exact s) q
  · exact k.rt _ _ _ _ g2 (by rw [o2]; exact x) (by rw [o2]; exact r) q
  · exact k.bk _ _ _ _ g2 (by rw [o2]; exact x) (by rw [o2]; exact s) q
  · exact k.ct _ _ _ _ g2 (by rw [o2]; exact x) (by rw [o2]; exact s) q
theorem de_lock (h : PE X ex (tD K E e da)) : PE X ex (tD K E e (dLockE da)) := PE.imp (pe_lock h) fun σ H Q h => by
  obtain ⟨δ, S, Z, q, t, ⟨a, l, h1, h2⟩, k⟩ := h
  obtain ⟨ob, h3, kvs, rfl, h4⟩ := t.good.c a _ h1
  refine ⟨a, _, h3, trivial, fun od => ?_⟩
  have cr : CRep K (out H S Z) (.lck (.frz od (.dK kvs)) l) (.frz od (.dK kvs)) := ⟨rfl, od, kvs, rfl, h4⟩
  have g1 := t.good.mut h1 cr
  have o1 := out_mut (H := H) (Z := Z) (o := .frz od (.dK kvs)) (c' := .lck (.frz od (.dK kvs)) l) h1
  refine ⟨δ, _, Z, _, ⟨g1, by rw [o1]; exact t.sl, by rw [o1]; exact t.lk⟩, h2 (.frz od (.dK kvs)), ?_⟩
  intro v d H' S' g x r ⟨e, q⟩
  rw [o1] at x
  obtain ⟨ob', kvs', e1, e2, e3⟩ := lck_at g e
  cases e1
  have o2 := out_mut (H := H') (Z := Z) (o := .dK kvs) (c' := .dic l) e
  have cr2 : CRep K (out H' S' Z) (.dic l) (.dK kvs) := ⟨kvs, rfl, Repk.kr.mpr e3⟩
  exact ⟨e2, k v d _ _ (g.mut e cr2) (by rw [o2]; exact x) (by rw [o2]; exact r) q⟩
end
end Dn

/-! comprehensions -/
namespace Dn
open PySem PySem.Spec PyProof.Rows L2 Pr
@[reducible] def snds : List (Str × Nat) → List Nat
  | [] => []
  | (_, n) :: r => n :: snds r
theorem snds_eq : ∀ l : List (Str × Nat), snds l = l.map (·.2)
  | [] => rfl
  | (_, n) :: r => by show n :: snds r = n :: r.map (·.2); rw [snds_eq r]
def noX : DX := fun _ _ => False
theorem lk_no {K : PySem.W.Frag} {E : XK} {Z G : Hp} : Lk K E noX Z G := fun _ _ _ _ _ h => h.elim
def tGw (K : PySem.W.Frag) (vs : List Nat) (g : DTG) : TG := fun v σ H N => ∃ x δ S Z n, Good K Z H S ∧ Slots K (out H S Z) σ δ ∧ Rep K (out H S Z) x v ∧ g x δ S n ∧
  ∀ σ' δ' H' S', wipe σ' vs = wipe σ vs → Good K Z H' S' → Ext (out H S Z) (out H' S' Z) → Slots K (out H' S' Z) σ' δ' → n δ' S' → N σ' H'
def tGws (K : PySem.W.Frag) (vs : List Nat) (g : DTGs) : TGs := fun us σ H N => ∃ xs δ S Z n, Good K Z H S ∧ Slots K (out H S Z) σ δ ∧ Reps K (out H S Z) xs us ∧ g xs δ S n ∧
  ∀ σ' δ' H' S', wipe σ' vs = wipe σ vs → Good K Z H' S' → Ext (out H S Z) (out H' S' Z) → Slots K (out H' S' Z) σ' δ' → n δ' S' → N σ' H'
theorem wipe_mem {σ : L2.St} {i : Nat} {x : Option V} : ∀ {vs : List Nat}, i ∈ vs → wipe (σ.set i x) vs = wipe σ vs
  | v :: vs, h => by
    show (wipe (σ.set i x) vs).set v none = (wipe σ vs).set v none
    have comm : ∀ ws : List Nat, wipe (σ.set i x) ws = (wipe σ ws).set i ((wipe (σ.set i x) ws)[i]?.getD none) := fun ws => by
      induction ws with
      | nil =>
        show σ.set i x = σ.set i (((σ.set i x)[i]?).getD none)
        by_cases hi : i < σ.length
        · rw [List.getElem?_set_self hi]; rfl
        · rw [List.set_eq_of_length_le (by omega), List.set_eq_of_length_le (by omega)]
      | cons w ws ih =>
        show (wipe (σ.set i x) ws).set w none = ((wipe σ ws).set w none).set i _
        by_cases hw : w = i
        · subst hw
          rw [ih, List.set_set, List.set_set]
          show _ = (wipe σ ws).set w (((wipe (σ.set w x) (w :: ws))[w]?).getD none)
          by_cases hl : w < (wipe σ ws).length
          · have : ((wipe (σ.set w x) (w :: ws))[w]?).getD none = none := by
              show (((wipe (σ.set w x) ws).set w none)[w]?).getD none = none
              rw [ih, List.set_set, List.getElem?_set_self hl]
              rfl
            rw [this]
          · rw [List.set_eq_of_length_le (by omega), List.set_eq_of_length_le (by omega)]
        · rw [ih, List.set_comm _ _ (Ne.symm hw)]
          congr 1
          show _ = ((wipe (σ.set i x) (w :: ws))[i]?).getD none
          show _ = (((wipe (σ.set i x) ws).set w none)[i]?).getD none
          rw [List.getElem?_set_ne hw]
    rcases List.mem_cons.mp h with rfl | h
    · rw [comm vs, List.set_set]
    · rw [wipe_mem h]
theorem slots_wipes {K : PySem.W.Frag} {G : Hp} {σ : L2.St} {δ : DS} (h : Slots K G σ δ) : ∀ vs : List Nat, Slots K G (wipe σ vs) (wipesS δ vs)
  | [] => h
  | v :: vs => Slots.wipe (slots_wipes h vs)
section
variable {X : Cx} {K : PySem.W.Frag} {E : XK} {e : DX} {pos pos' apos cpos p2 tpos : Pos} {a b c o ex value tg : Expr} {es rest ifs : List Expr} {da : DTE} {g : DTG} {gs : DTGs} {vs : List Nat}
theorem gw_name {i : Nat} {x : Str} (hN : X.N.Nodup) (hi : X.N[i]? = some x) (hx : Loc X.env.scope x) (hv : i ∈ vs := by decide) (hf : X.fn x = true ∨ X.env.scope.names.lookup x = some .local := by first | exact .inl rfl | exact .inr rfl | assumption) : PG X (.Name x pos) (tGw K vs (dName i)) := ⟨fun pins s σ H v u Q I r h => by
  refine (pg_name (pos := pos) hN hi hx hf).run pins s σ H v u Q I r ?_
  obtain ⟨x, δ, S, Z, n, gd, sl, rx, h, k⟩ := h
  exact k _ _ H S (wipe_mem hv) gd Ext.refl (sl.put rx) h⟩
theorem gws_nil : PGs X [] (tGws K vs dGNil) := ⟨fun pins s σ H v u Q I r h => by
  refine pgs_nil.run pins s σ H v u Q I r ?_
  obtain ⟨x, δ, S, Z, n, gd, sl, rx, h, k⟩ := h
  cases x with
  | nil => exact ⟨rx, k σ δ H S rfl gd Ext.refl sl h⟩
  | cons _ _ => exact h.elim⟩
theorem gws_cons (h1 : PG X a (tGw K vs g)) (h2 : PGs X es (tGws K vs gs)) (hs : (assignEach (a :: es) X.env).map (·.2) = assign a X.env :: (assignEach es X.env).map (·.2) := by rfl) : PGs X (a :: es) (tGws K vs (dGCons g gs)) := ⟨fun pins s σ H v u Q I r h => by
  refine (pgs_cons h1 h2 hs).run pins s σ H v u Q I r ?_
  obtain ⟨x, δ, S, Z, n, gd, sl, rx, h, k⟩ := h
  cases x with
  | nil => exact h.elim
  | cons d l =>
    obtain ⟨v1, vr, rfl, r1, r2⟩ := rx
    exact ⟨v1, vr, rfl, d, δ, S, Z, _, gd, sl, r1, h, fun σ' δ' H' S' w' g' x' s' h' => ⟨l, δ', S', Z, n, g', s', Reps.ext x' _ _ r2, h', fun σ'' δ'' H'' S'' w'' g'' x'' => k σ'' δ'' H'' S'' (w''.trans w') g'' (x'.trans x'')⟩⟩⟩
theorem gw_tup (hK : X.K = K) {k n : Nat} (hc : X.calm = true) (h : PGs X es (tGws K vs gs)) (hn : (assignEach es X.env).length = n := by rfl) (hst : (assignEach es X.env).findIdx? (·.1) = none := by rfl) : PG X (.Tuple es k pos) (tGw K vs (dGTup n gs)) := ⟨fun pins s σ H v u Q I r h0 => by
  subst hK
  refine (pg_tup (k := k) (pos := pos) hc h hn hst).run pins s σ H v u Q I r ?_
  obtain ⟨x, δ, S, Z, m, gd, sl, rx, h1, k⟩ := h0
  cases x with
  | tup l =>
    obtain ⟨p, ws, rfl, hp, hl⟩ := rx
    obtain ⟨h2, h3⟩ := LenIs.len h1
    exact ⟨p, ws, rfl, SqT.out hp, by rw [← hl.len]; exact h2, l, δ, S, Z, m, gd, sl, hl, h3, k⟩
  | _ => exact h1.elim⟩
theorem ts_nil : PTs X [] (tDT K E e dYes) := ⟨fun pins s σ H Q I h => by
  obtain ⟨δ, S, Z, q, t, h, k⟩ := h
  exact pts_nil.run pins s σ H Q I (k true H S t.good Ext.refl h)⟩
theorem ts_one {tt : DTT} (h : PT X c (tDT K E e tt)) : PTs X [c] (tDT K E e tt) := pts_one h
end
/-! the run -/
section
variable {K : PySem.W.Frag} {E : XK} {e : DX}
theorem hide_same {Z H : Hp} {S : Store} {p : Addr} {o : HO} (g : Good K (upd Z p o) H S) : upd H p o = H := by
  funext b
  by_cases hb : b = p
  · rw [hb, upd_same, g.at]
  · rw [upd_ne hb]
theorem lc_run {it : DTL} {wi : TI} {g : DTG} {tt : DTT} {te : DTE} {vs : List Nat} {qL : List Dt → Store → Prop} {σ : L2.St} {H : Hp} {Q : VK} {δ : DS} {S : Store} {Z : Hp}
    (t : At K E e Z H S σ δ) (h : dLc it g vs tt te qL δ S)
    (fin : ∀ D accV acc H' S', Z D = none → Good K (upd Z D (.lst accV)) H' S' → Ext (out H S Z) (out H' S' (upd Z D (.lst accV))) → Reps K (out H' S' (upd Z D (.lst accV))) acc accV → qL acc S' → Q (.ref D) H') :
    tLc (tDI K E e it) (tGw K vs g) (tDT K E0 noX tt) (tD K E0 noX te) vs σ H Q := by
  refine ⟨δ, S, Z, _, t, h, fun l keep H1 S1 J g1 x1 ok h1 => ?_⟩
  obtain ⟨hl, I, h0, hk, hs, hd⟩ := h1
  intro D nD
  have nZ := g1.nZ nD
  have sl1 := t.sl.ext x1
  refine lc_it (n := l.length) (G := fun H => ∃ Z' S, Good K Z' H S ∧ Ext (out H1 S1 Z) (out H S Z') ∧ keep S) (Y := fun i H x H' => J.yld i H x H') (Qd := fun H => Q (.ref D) H)
    ⟨fun i H hi ⟨Z', S, g, x, kp⟩ => ok.go Z' i H S g x kp hi, fun H ⟨Z', S, g, x, kp⟩ => ok.stop Z' H S g x kp, fun i H x H' _ _ y => y⟩
    (fun i H => ∃ S acc accV, Good K (upd Z D (.lst accV)) H S ∧ Ext (out H1 S1 Z) (out H S (upd Z D (.lst accV))) ∧ Reps K (out H S (upd Z D (.lst accV))) acc accV ∧ acc.length ≤ i ∧ I i acc S)
    ⟨S1, [], [], g1.hide nD, by rw [hide_out g1 nD]; exact Ext.refl, rfl, Nat.le_refl _, h0⟩
    (fun i H hi ⟨S, acc, accV, g, x, r, n, q⟩ => ⟨_, S, g, x, hk i acc S hi q⟩) (fun i x H H' hi hh y => ?_)
    (fun H ⟨S, acc, accV, g, x, r, n, q⟩ => fin D accV acc H S nZ g (x1.trans x) r (hd acc S q))
  obtain ⟨S2, acc, accV, g2, x2, r2, n2, q2⟩ := hh
  obtain ⟨d, e1, g3, x3, r3⟩ := ok.yld _ i H S2 x H' g2 x2 (hk i acc S2 (Nat.le_of_lt hi) q2) hi y
  have x23 := x2.trans x3
  refine ⟨d, _, S2, _, _, g3, slots_wipes (sl1.ext x23) vs, r3, hs i d acc S2 e1 q2, fun σ' δ' H4 S4 w4 g4 x4 s4 h4 => ?_⟩
  refine ⟨by rw [w4, wipe_wipe], δ', S4, _, _, ⟨g4, s4, lk_no⟩, h4, fun b H5 S5 g5 x5 h5 => ?_⟩
  have x45 := x4.trans x5
  cases b with
  | false => exact iteF ⟨S5, acc, accV, g5, x23.trans x45, Reps.ext (x3.trans x45) _ _ r2, Nat.le_succ_of_le n2, h5⟩
  | true =>
    refine iteT ⟨δ', S5, _, _, ⟨g5, s4.ext x5, lk_no⟩, h5, fun v z H6 S6 g6 x6 r6 h6 => ?_⟩
    have x46 := x45.trans x6
    have r7 := Reps.ext (x3.trans x46) _ _ r2
    refine ⟨accV, g6.at, by rw [← r7.len]; omega, S6, acc ++ [z], accV ++ [v], g6.rehide, ?_, ?_, by rw [List.length_append]; exact Nat.succ_le_succ n2, h6⟩
    · rw [rehide_out (o := .lst accV)]
      exact x23.trans x46
    · rw [rehide_out (o := .lst accV)]
      exact Reps.pair.mpr (Paired.app (Reps.pair.mp r7) (.cons r6 .nil))
where
  wipe_wipe {σ : L2.St} {vs : List Nat} : wipe (wipe σ vs) vs = wipe σ vs := by
    have go : ∀ ws : List Nat, (∀ v ∈ ws, v ∈ vs) → wipe (wipe σ ws) vs = wipe σ vs := fun ws => by
      induction ws with
      | nil => intro _; rfl
      | cons v ws ih =>
        intro h
        show wipe ((wipe σ ws).set v none) vs = _
        rw [wipe_mem (h v List.mem_cons_self)]
        exact ih fun w hw => h w (List.mem_cons_of_mem _ hw)
    exact go vs fun _ h => h
theorem lc_frozen {it : DTL} {g : DTG} {tt : DTT} {te : DTE} {vs : List Nat} {σ : L2.St} {H : Hp} {Q : VK} (h : tD K E e (dLcF it g vs tt te) σ H Q) : tLc (tDI K E e it) (tGw K vs g) (tDT K E0 noX tt) (tD K E0 noX te) vs σ H Q := by
  obtain ⟨δ, S, Z, q, t, h, k⟩ := h
  refine lc_run (wi := tDI K E e it) t h fun D accV acc H' S' nz g x r q' => ?_
  refine k _ (.lst acc) _ S' (g.bare nz) (x.trans (bare_ext g nz)) ⟨D, accV, rfl, ?_, Reps.ext (bare_ext g nz) _ _ r⟩ q'
  rw [out_of g.noS nz]
  exact g.at
theorem lc_owned {it : DTL} {g : DTG} {tt : DTT} {te : DTE} {vs : List Nat} {σ : L2.St} {H : Hp} {Q : VK} (h : tD K E e (dLcO it g vs tt te) σ H Q) : tLc (tDI K E e it) (tGw K vs g) (tDT K E0 noX tt) (tD K E0 noX te) vs σ H Q := by
  obtain ⟨δ, S, Z, q, t, h, k⟩ := h
  refine lc_run (wi := tDI K E e it) t h fun D accV acc H' S' nz g x r q' => ?_
  have cr : CRep K (out H' S' (upd Z D (.lst accV))) (.lst acc) (.lst accV) := ⟨accV, rfl, r⟩
  have g2 := g.shownO nz cr
  have o2 := showO_out (o' := .lst accV) g nz (c := .lst acc)
  rw [hide_same g] at g2 o2
  exact k _ (.ref D) _ _ g2 (by rw [o2]; exact x) rfl (q' D g.noS)
end
section
variable {X : Cx} {K : PySem.W.Frag} {E : XK} {e : DX} {pos spos py : Pos} {elt tg iter : Expr} {ifs : List Expr} {scope : Scope} {own : List (Str × Nat)} {it : DTL} {g : DTG} {tt : DTT} {te : DTE}
theorem de_lc (calm : X.calm = true) (hN : X.N.Nodup) (hi : PI X tg iter (tDI K E e it)) (ok : BlkOk X.N X.env.scope scope own)
    (hg : ∀ (s : Shared) (H : Hp) (C : Addr) (cl : List (Str × Addr)) (fp : List Addr), PG (X.blk s H scope (compEnvC scope cl C X.env) fp) tg (tGw K (snds own) g))
    (ht : ∀ (s : Shared) (H : Hp) (C : Addr) (cl : List (Str × Addr)) (fp : List Addr), PTs (X.blk s H scope (compEnvC scope cl C X.env) fp) ifs (tDT K E0 noX tt))
    (he : ∀ (s : Shared) (H : Hp) (C : Addr) (cl : List (Str × Addr)) (fp : List Addr), PE (X.blk s H scope (compEnvC scope cl C X.env) fp) elt (tD K E0 noX te)) (hs : ∀ x, foldedSetIterable iter X.env x = pure x := by intro _; rfl) :
    PE X (.ListComp elt [⟨tg, iter, ifs, 0⟩] scope pos) (tD K E e (dLcF it g (snds own) tt te)) := by
  rw [snds_eq] at hg ⊢
  exact PE.imp (pe_lc calm hN hi ok hg ht he hs) fun σ H Q h => lc_frozen h
theorem de_lcO (calm : X.calm = true) (hN : X.N.Nodup) (hi : PI X tg iter (tDI K E e it)) (ok : BlkOk X.N X.env.scope scope own)
    (hg : ∀ (s : Shared) (H : Hp) (C : Addr) (cl : List (Str × Addr)) (fp : List Addr), PG (X.blk s H scope (compEnvC scope cl C X.env) fp) tg (tGw K (snds own) g))
    (ht : ∀ (s : Shared) (H : Hp) (C : Addr) (cl : List (Str × Addr)) (fp : List Addr), PTs (X.blk s H scope (compEnvC scope cl C X.env) fp) ifs (tDT K E0 noX tt))
    (he : ∀ (s : Shared) (H : Hp) (C : Addr) (cl : List (Str × Addr)) (fp : List Addr), PE (X.blk s H scope (compEnvC scope cl C X.env) fp) elt (tD K E0 noX te)) (hs : ∀ x, foldedSetIterable iter X.env x = pure x := by intro _; rfl) :
    PE X (.ListComp elt [⟨tg, iter, ifs, 0⟩] scope pos) (tD K E e (dLcO it g (snds own) tt te)) := by
  rw [snds_eq] at hg ⊢
  exact PE.imp (pe_lc calm hN hi ok hg ht he hs) fun σ H Q h => lc_owned h
/-- y = [..], a local name -/
theorem ds_setLc {i : Nat} {y : Str} (calm : X.calm = true) (hN : X.N.Nodup) (hy : X.N[i]? = some y) (hyl : X.env.scope.names.lookup y = some .local) (hsw : swapsWith (.ListComp elt [⟨tg, iter, ifs, 0⟩] scope pos) (some (.Name y py)) spos.line X.env = pure true)
    (hi : PI X tg iter (tDI K E e it)) (ok : BlkOk X.N X.env.scope scope own)
    (hg : ∀ (s : Shared) (H : Hp) (C : Addr) (cl : List (Str × Addr)) (fp : List Addr), PG (X.blk s H scope (compEnvC scope cl C X.env) fp) tg (tGw K (snds own) g))
    (ht : ∀ (s : Shared) (H : Hp) (C : Addr) (cl : List (Str × Addr)) (fp : List Addr), PTs (X.blk s H scope (compEnvC scope cl C X.env) fp) ifs (tDT K E0 noX tt))
    (he : ∀ (s : Shared) (H : Hp) (C : Addr) (cl : List (Str × Addr)) (fp : List Addr), PE (X.blk s H scope (compEnvC scope cl C X.env) fp) elt (tD K E0 noX te)) (hs : ∀ x, foldedSetIterable iter X.env x = pure x := by intro _; rfl) :
    PS X (.Assign [.Name y py] (.ListComp elt [⟨tg, iter, ifs, 0⟩] scope pos) spos) (tDS K E e (dAsg (dLcF it g (snds own) tt te) (dName i))) := by
  rw [snds_eq] at hg ⊢
  exact PS.imp (ps_setLc calm hN hy hyl hsw hi ok hg ht he hs) fun D σ H h => by
    obtain ⟨δ, S, Z, DD, t, h, k⟩ := h
    exact lc_frozen ⟨δ, S, Z, _, t, h, fun v x H1 S1 g1 x1 r1 h1 => k.nx _ _ _ _ g1 x1 ((t.sl.ext x1).put r1) h1⟩
theorem ds_setLcO {i : Nat} {y : Str} (calm : X.calm = true) (hN : X.N.Nodup) (hy : X.N[i]? = some y) (hyl : X.env.scope.names.lookup y = some .local) (hsw : swapsWith (.ListComp elt [⟨tg, iter, ifs, 0⟩] scope pos) (some (.Name y py)) spos.line X.env = pure true)
    (hi : PI X tg iter (tDI K E e it)) (ok : BlkOk X.N X.env.scope scope own)
    (hg : ∀ (s : Shared) (H : Hp) (C : Addr) (cl : List (Str × Addr)) (fp : List Addr), PG (X.blk s H scope (compEnvC scope cl C X.env) fp) tg (tGw K (snds own) g))
    (ht : ∀ (s : Shared) (H : Hp) (C : Addr) (cl : List (Str × Addr)) (fp : List Addr), PTs (X.blk s H scope (compEnvC scope cl C X.env) fp) ifs (tDT K E0 noX tt))
    (he : ∀ (s : Shared) (H : Hp) (C : Addr) (cl : List (Str × Addr)) (fp : List Addr), PE (X.blk s H scope (compEnvC scope cl C X.env) fp) elt (tD K E0 noX te)) (hs : ∀ x, foldedSetIterable iter X.env x = pure x := by intro _; rfl) :
    PS X (.Assign [.Name y py] (.ListComp elt [⟨tg, iter, ifs, 0⟩] scope pos) spos) (tDS K E e (dAsg (dLcO it g (snds own) tt te) (dName i))) := by
  rw [snds_eq] at hg ⊢
  exact PS.imp (ps_setLc calm hN hy hyl hsw hi ok hg ht he hs) fun D σ H h => by
    obtain ⟨δ, S, Z, DD, t, h, k⟩ := h
    exact lc_owned ⟨δ, S, Z, _, t, h, fun v x H1 S1 g1 x1 r1 h1 => k.nx _ _ _ _ g1 x1 ((t.sl.ext x1).put r1) h1⟩
end
end Dn

/-! defs, methods, classes by their promises over deep values -/
namespace Dn
open PySem PySem.Spec PyProof.Rows L2 Pr
abbrev DSp := List Dt → Store → DK → DX → Prop
def spD (K : PySem.W.Frag) (c : DSp) : Sp := fun vs H Q E => ∃ ds S Z q e, Good K Z H S ∧ Reps K (out H S Z) ds vs ∧ Lk K E e Z (out H S Z) ∧ c ds S q e ∧ Ty K Z H S q Q
@[reducible] def appD : List Dt → List Dt → List Dt
  | [], m => m
  | x :: l, m => x :: appD l m
theorem appD_eq : ∀ l m : List Dt, appD l m = l ++ m
  | [], _ => rfl
  | x :: l, m => by show x :: appD l m = x :: (l ++ m); rw [appD_eq l m]
@[reducible] def startD : Nat → List Dt → DS
  | 0, _ => []
  | n + 1, [] => none :: startD n []
  | n + 1, d :: l => some d :: startD n l
/-- what defaults are worth, everywhere -/
def Dfl (K : PySem.W.Frag) (dds : List Dt) (dvs : List V) : Prop := ∀ G, Reps K G dds dvs
@[reducible] def dCall (c : DSp) (dds : List Dt) (e : DX) (t : DTA) : DTE := fun δ S q => t δ S fun ds S1 => c (appD ds dds) S1 q e
@[reducible] def isIns (C : Addr) (nm : List Str) (x : Dt) (S : Store) (A : Prop) : Prop := match x with
  | .obj C' nm' _ => (C' = C ∧ nm' = nm) ∧ A
  | .ref a => ∃ l, S a = some (.ins C nm l) ∧ A
  | _ => False
@[reducible] def dMeth (C : Addr) (nm : List Str) (c : DSp) (dds : List Dt) (e : DX) (o : DTE) (t : DTA) : DTE := fun δ S q => o δ S fun x S1 => isIns C nm x S1 (t δ S1 fun ds S2 => c (x :: appD ds dds) S2 q e)
@[reducible] def dMake (C : Addr) (nm : List Str) (c : DSp) (dds : List Dt) (e : DX) (t : DTA) : DTE := fun δ S q => t δ S fun ds S1 => ∀ p, S1 p = none → c (.ref p :: appD ds dds) (sput S1 p (.ins C nm [])) (fun v S2 => v = .non ∧ q (.ref p) S2) e
section
variable {P : Program} {w : World} {K : PySem.W.Frag} {mg : Str → Option Value} {base : Heap} {x qual : Str} {params : Arguments} {body : List Stmt} {scope : Scope} {dvs : List V} {f : Addr} {fd : FuncData} {N ps : List Str} {k : Nat}
theorem start_slots {G : Hp} : ∀ (N : List Str) (ds : List Dt) (vs : List V), Reps K G ds vs → vs.length ≤ N.length → Slots K G (start N vs) (startD N.length ds) := fun N ds vs => by
  have go : ∀ (n : Nat) (ds : List Dt) (vs : List V), Reps K G ds vs → vs.length ≤ n → Slots K G (vs.map some ++ List.replicate (n - vs.length) none) (startD n ds) := fun n => by
    induction n with
    | zero =>
      intro ds vs r h
      have : vs = [] := List.eq_nil_of_length_eq_zero (by omega)
      subst this
      exact .nil
    | succ n ih =>
      intro ds vs r h
      cases ds with
      | nil =>
        have : vs = [] := r
        subst this
        have := ih [] [] rfl (Nat.zero_le _)
        show Slots K G (List.replicate (n + 1) none) (none :: startD n [])
        exact .cons (fun x hx => by cases hx) (by simpa [Slots] using this)
      | cons d l =>
        obtain ⟨v, vr, rfl, r1, r2⟩ := r
        have := ih l vr r2 (by simpa using h)
        show Slots K G (some v :: (vr.map some ++ List.replicate (n + 1 - (vr.length + 1)) none)) (some d :: startD n l)
        rw [show n + 1 - (vr.length + 1) = n - vr.length by omega]
        exact .cons (fun x hx => by cases hx; exact ⟨v, rfl, r1⟩) this
  exact go N.length ds vs
/-- THE RULE for a def -/
theorem dfn {c : DSp} {kws : List (Str × V)} (n : Nat) (F : FunD K x qual params body scope dvs kws f fd) (S : FnScope N ps scope) (len : ∀ ds S q e, c ds S q e → ds.length = ps.length) (hn : N.length = n := by rfl)
    (run : ∀ (cdv : Value) (A : Around) (outer : List Env) (s : Shared) (H : Hp) (E : XK) (e : DX), Room k (A.deeper (envOfC qual scope s.heap.objs.size f cdv)) →
      ∃ t, PSs (cxOf (L2.CX P w) P w K mg base N qual scope f cdv A outer s H E) body (tDS K E e t) ∧ ∀ ds S q, c ds S q e → t { nx := fun _ S => q .non S, rt := q } (startD n ds) S) : FnOk P w K mg base (L2.CX P w) (k + 1) f fd ps (spD K c) := by
  refine F.ok S (fun vs H Q E h => ?_) (fun cdv A outer s H vs Q E hr h => ?_)
  · obtain ⟨ds, S, Z, q, e, g, r, l, h, k⟩ := h
    rw [← r.len]
    exact len ds S q e h
  · obtain ⟨ds, S', Z, q, e, g, r, l, h, kk⟩ := h
    obtain ⟨t, p, h2⟩ := run cdv A outer s H E e hr
    refine ⟨_, p, _, S', Z, _, ⟨g, ?_, l⟩, h2 ds S' q h, ?_⟩
    · rw [← hn]
      refine start_slots N ds vs r ?_
      rw [← r.len, len ds S' q e h]
      have := congrArg List.length S.pre
      rw [List.length_take] at this
      omega
    · exact ⟨fun σ δ H S g x s q => kk .non .non H S g x rfl q, fun v d H S g x r q => kk v d H S g x r q, fun _ _ _ _ _ _ _ h => h, fun _ _ _ _ _ _ _ h => h⟩
end
section
variable {X : Cx} {K : PySem.W.Frag} {E : XK} {e : DX} {k j : Nat} {x m : Str} {C : Addr} {c : DSp} {dvs : List V} {dds : List Dt} {p pos apos : Pos} {a o : Expr} {es : List Expr} {ts : DTA} {da : DTE} {nm : List Str}
theorem tD_call (hd : Dfl K dds dvs) {σ : L2.St} {H : Hp} {Q : VK} (h : tD K E e (dCall c dds e ts) σ H Q) : tCall (spD K c) dvs E (tDA K E e ts) σ H Q := by
  obtain ⟨δ, S, Z, q, t, h, k⟩ := h
  refine ⟨δ, S, Z, _, t, h, fun vs ds H1 S1 g1 x1 r1 h1 => ⟨appD ds dds, S1, Z, q, e, g1, ?_, t.lk.ext x1, h1, k.ext x1⟩⟩
  rw [appD_eq]
  exact Reps.pair.mpr (Paired.app (Reps.pair.mp r1) (Reps.pair.mp (hd _)))
theorem dfl_nil : Dfl K [] [] := fun _ => rfl
theorem de_call (hK : X.K = K) (cl : CalX X.prog X.w K X.mg X.base k x (spD K c) dvs) (hd : Dfl K dds dvs) (hr : Room j X.A) (hk : k ≤ j) (hg : Gl X x) (hx : Passes (L2.CX X.prog X.w) X E) (ha : PA X (a :: es) (tDA K E e ts)) (hdb : (x == ("__debug__" : Str)) = false := by decide)
    (he : starEach (a :: es) X.env = (false, eval a X.env) :: starEach es X.env := by rfl) (hpl : (backTo pos (starEach es X.env)).any (·.1) = false := by rfl) : PE X (.Call (.Name x p) (a :: es) [] pos) (tD K E e (dCall c dds e ts)) := by
  subst hK
  exact PE.imp (pe_cX cl hr hk hg hx ha hdb he hpl) fun σ H Q h => tD_call hd h
theorem de_call0 (hK : X.K = K) (cl : CalX X.prog X.w K X.mg X.base k x (spD K c) dvs) (hd : Dfl K dds dvs) (hr : Room j X.A) (hk : k ≤ j) (hg : Gl X x) (hx : Passes (L2.CX X.prog X.w) X E) (hdb : (x == ("__debug__" : Str)) = false := by decide) :
    PE X (.Call (.Name x p) [] [] pos) (tD K E e (dCall c dds e dNil)) := by
  subst hK
  refine PE.imp (pe_cX0 cl hr hk hg hx hdb) fun σ H Q h => ?_
  obtain ⟨δ, S, Z, q, t, h, k⟩ := h
  exact ⟨appD [] dds, S, Z, q, e, t.good, hd _, t.lk, h, k⟩
theorem ins_of {Z H : Hp} {S : Store} {v : V} {d : Dt} (g : Good K Z H S) (r : Rep K (out H S Z) d v) (hm : m ∉ nm) {A : Prop} (h : isIns C nm d S A) : (∃ a dx fs, v = .ref a ∧ H a = some (.ins C dx fs) ∧ fs.lookup m = none) ∧ A := by
  have look : ∀ (n : Nat) (vs : List V), ((nm.take n).zip vs).lookup m = none := fun n vs => by
    rw [List.lookup_eq_none_iff]
    intro p hp
    have := List.of_mem_zip hp
    have h1 : p.1 ≠ m := fun z => hm (z ▸ List.mem_of_mem_take this.1)
    simpa using Ne.symm h1
  cases d with
  | obj C' nm' l =>
    obtain ⟨⟨rfl, rfl⟩, h⟩ := h
    obtain ⟨a, dx, vs, rfl, h1, _⟩ := r
    exact ⟨⟨a, dx, _, rfl, out_le h1, look _ _⟩, h⟩
  | ref a =>
    obtain ⟨l, h1, h2⟩ := h
    obtain ⟨ob, h3, dx, vs, rfl, _⟩ := g.c a _ h1
    exact ⟨⟨a, dx, _, r, h3, look _ _⟩, h2⟩
  | _ => exact h.elim
theorem de_meth (hK : X.K = K) {pl : Sem Bool} (cl : MetX X.prog X.w K X.mg X.base k C m (spD K c) dvs) (hm : m ∉ nm) (hd : Dfl K dds dvs) (hr : Room j X.A) (hk : k ≤ j) (hx : Passes (L2.CX X.prog X.w) X E) (ho : PE X o (tD K E e da)) (ha : PA X (a :: es) (tDA K E e ts))
    (hst : starEach (a :: es) X.env = (false, eval a X.env) :: starEach es X.env := by rfl) (hpl : (backTo pos (starEach es X.env)).any (·.1) = false := by rfl)
    (ht : eval (.Call (.Attribute o m apos) (a :: es) [] pos) X.env = (do
      let ov ← eval o X.env
      standAt apos.atName
      let (f, first) ← holding [ov] (getMethod ov m pl)
      callWith pos f first (backTo pos (starEach (a :: es) X.env)) (backToKw pos (keywordEach [] X.env))) := by rfl) :
    PE X (.Call (.Attribute o m apos) (a :: es) [] pos) (tD K E e (dMeth C nm c dds e da ts)) := by
  subst hK
  refine PE.imp (pe_mX cl hr hk hx ho ha hst hpl ht) fun σ H Q h => ?_
  obtain ⟨δ, S, Z, q, t, h, k⟩ := h
  refine ⟨δ, S, Z, _, t, h, fun v x H1 S1 g1 x1 r1 h1 => ?_⟩
  obtain ⟨⟨b, dx, fs, rfl, h2, h3⟩, h4⟩ := ins_of g1 r1 hm h1
  refine ⟨b, dx, fs, rfl, h2, h3, δ, S1, Z, _, t.to g1 x1, h4, fun vs ds H2 S2 g2 x2 r2 h5 => ⟨x :: appD ds dds, S2, Z, q, e, g2, ⟨.ref b, _, rfl, Rep.ext x2 _ _ r1, ?_⟩, t.lk.ext (x1.trans x2), h5, k.ext (x1.trans x2)⟩⟩
  rw [appD_eq]
  exact Reps.pair.mpr (Paired.app (Reps.pair.mp r2) (Reps.pair.mp (hd _)))
theorem de_meth0 (hK : X.K = K) {pl : Sem Bool} (cl : MetX X.prog X.w K X.mg X.base k C m (spD K c) dvs) (hm : m ∉ nm) (hd : Dfl K dds dvs) (hr : Room j X.A) (hk : k ≤ j) (hx : Passes (L2.CX X.prog X.w) X E) (ho : PE X o (tD K E e da))
    (ht : eval (.Call (.Attribute o m apos) [] [] pos) X.env = (do
      let ov ← eval o X.env
      standAt apos.atName
      let (f, first) ← holding [ov] (getMethod ov m pl)
      callWith pos f first (backTo pos (starEach [] X.env)) (backToKw pos (keywordEach [] X.env))) := by rfl) :
    PE X (.Call (.Attribute o m apos) [] [] pos) (tD K E e (dMeth C nm c dds e da dNil)) := by
  subst hK
  refine PE.imp (pe_mX0 cl hr hk hx ho ht) fun σ H Q h => ?_
  obtain ⟨δ, S, Z, q, t, h, k⟩ := h
  refine ⟨δ, S, Z, _, t, h, fun v x H1 S1 g1 x1 r1 h1 => ?_⟩
  obtain ⟨⟨b, dx, fs, rfl, h2, h3⟩, h4⟩ := ins_of g1 r1 hm h1
  exact ⟨b, dx, fs, rfl, h2, h3, x :: appD [] dds, S1, Z, q, e, g1, ⟨.ref b, _, rfl, r1, hd _⟩, t.lk.ext x1, h4, k.ext x1⟩
theorem tD_make (hd : Dfl K dds dvs) {σ : L2.St} {H : Hp} {Q : VK} (h : tD K E e (dMake C nm c dds e ts) σ H Q) : tMake C (spD K c) dvs E (tDA K E e ts) σ H Q := by
  obtain ⟨δ, S, Z, q, t, h, k⟩ := h
  refine ⟨δ, S, Z, _, t, h, fun vs ds H1 S1 g1 x1 r1 h1 p dx np ndx ne => ?_⟩
  have g2 := g1.new (o := .own p) ndx
  have np2 : upd H1 dx (.own p) p = none := by rw [upd_ne (Ne.symm ne)]; exact np
  have g3 : Good K Z (upd (upd H1 dx (.own p)) p (.ins C dx [])) (sput S1 p (.ins C nm [])) := g2.own np2 (c := .ins C nm []) ⟨dx, [], by simp, rfl, Nat.zero_le _⟩
  have o3 := out_own (o := .ins C dx []) g2 np2 (c := .ins C nm [])
  have x3 : Ext (out H1 S1 Z) (out (upd (upd H1 dx (.own p)) p (.ins C dx [])) (sput S1 p (.ins C nm [])) Z) := by rw [o3]; exact ext_new g1 ndx
  refine ⟨.ref p :: appD ds dds, _, Z, _, e, g3, ⟨.ref p, _, rfl, rfl, ?_⟩, t.lk.ext (x1.trans x3), h1 p (g1.nS np), ?_⟩
  · rw [appD_eq]
    exact Reps.pair.mpr (Paired.app (Reps.pair.mp (Reps.ext x3 _ _ r1)) (Reps.pair.mp (hd _)))
  · intro v d H4 S4 g4 x4 r4 h4
    obtain ⟨rfl, h4⟩ := h4
    exact ⟨r4, k (.ref p) (.ref p) H4 S4 g4 (x1.trans (x3.trans x4)) rfl h4⟩
theorem de_make (hK : X.K = K) (cl : MakX X.prog X.w K X.mg X.base k x C (spD K c) dvs) (hd : Dfl K dds dvs) (hr : Room j X.A) (hk : k + 1 ≤ j) (hg : Gl X x) (hx : Passes (L2.CX X.prog X.w) X E) (ha : PA X (a :: es) (tDA K E e ts)) (hdb : (x == ("__debug__" : Str)) = false := by decide)
    (he : starEach (a :: es) X.env = (false, eval a X.env) :: starEach es X.env := by rfl) (hpl : (backTo pos (starEach es X.env)).any (·.1) = false := by rfl) : PE X (.Call (.Name x p) (a :: es) [] pos) (tD K E e (dMake C nm c dds e ts)) := by
  subst hK
  exact PE.imp (pe_mkX cl hr hk hg hx ha hdb he hpl) fun σ H Q h => tD_make hd h
theorem de_make0 (hK : X.K = K) (cl : MakX X.prog X.w K X.mg X.base k x C (spD K c) dvs) (hd : Dfl K dds dvs) (hr : Room j X.A) (hk : k + 1 ≤ j) (hg : Gl X x) (hx : Passes (L2.CX X.prog X.w) X E) (hdb : (x == ("__debug__" : Str)) = false := by decide) :
    PE X (.Call (.Name x p) [] [] pos) (tD K E e (dMake C nm c dds e dNil)) := by
  subst hK
  refine PE.imp (pe_mkX0 cl hr hk hg hx hdb) fun σ H Q h => ?_
  have h2 := tD_make (ts := dNil) hd h
  exact h2_nil h2
where
  h2_nil {X : Cx} {E : XK} {e : DX} {C : Addr} {c : DSp} {dvs : List V} {σ : L2.St} {H : Hp} {Q : VK} (h : tMake C (spD X.K c) dvs E (tDA X.K E e dNil) σ H Q) : tMake C (spD X.K c) dvs E tNil σ H Q := by
    obtain ⟨δ, S, Z, q, t, h, k⟩ := h
    exact k [] [] H S t.good Ext.refl rfl h
end
/-- exceptions in what a comprehension makes: none -/
theorem no_pass {X : Cx} : Passes (L2.CX X.prog X.w) X E0 := passL
end Dn

/-! what is built in -/
namespace Dn
open PySem PySem.Spec PyProof.Rows L2 Pr
@[reducible] def rcLen : DCr := fun xs S q => match xs with
  | [.str z] => q (.int z.length) S
  | [.lst l] => q (.int l.length) S
  | [.tup l] => q (.int l.length) S
  | [.ref a] => ∃ c, S a = some c ∧ (match c with
    | .lst l => q (.int l.length) S
    | .dic l => q (.int l.length) S
    | _ => False)
  | _ => False
@[reducible] def rcAbs : DCr := fun xs S q => match xs with
  | [.int i] => q (.int (if i < 0 then -i else i)) S
  | _ => False
@[reducible] def rcMin : DCr := fun xs S q => match xs with
  | [.int i, .int j] => q (.int (min i j)) S
  | _ => False
@[reducible] def rcMax : DCr := fun xs S q => match xs with
  | [.int i, .int j] => q (.int (max i j)) S
  | _ => False
@[reducible] def rcInt : DCr := fun xs S q => match xs with
  | [.int i] => q (.int i) S
  | [.bl b] => q (.int (if b then 1 else 0)) S
  | _ => False
/-- list(x), a new list that stands still or will change -/
@[reducible] def rcListF : DCr := fun xs S q => match xs with
  | [x] => seeQ x S fun l => q (.lst l) S
  | _ => False
@[reducible] def rcListO : DCr := fun xs S q => match xs with
  | [x] => seeQ x S fun l => ∀ p, S p = none → q (.ref p) (sput S p (.lst l))
  | _ => False
/-- list(d) -/
@[reducible] def rcKeysF : DCr := fun xs S q => match xs with
  | [x] => seeD x S fun l => q (.lst (l.map fun p => keyD p.1)) S
  | _ => False
/-- dict(d) -/
@[reducible] def rcCopyO : DCr := fun xs S q => match xs with
  | [x] => seeD x S fun l => ∀ p, S p = none → q (.ref p) (sput S p (.dic l))
  | _ => False
/-- dict([(k, v), ..]) -/
@[reducible] def rcPairsO : DCr := fun xs S q => match xs with
  | [x] => seeL x S fun l => ∃ m : List (Key × Dt), l = (m.map fun p => Dt.tup [keyD p.1, p.2]) ∧ ∀ p, S p = none → q (.ref p) (sput S p (.dic (kMerge [] m)))
  | _ => False
@[reducible] def rcPairsF : DCr := fun xs S q => match xs with
  | [x] => seeL x S fun l => ∃ m : List (Key × Dt), l = (m.map fun p => Dt.tup [keyD p.1, p.2]) ∧ q (.dic (kMerge [] m)) S
  | _ => False
/-- sorted of a dict with texts as keys, of a list of texts, of ints -/
@[reducible] def rcSortD : DCr := fun xs S q => match xs with
  | [x] => seeD x S fun l => ∃ ks : List Str, l.map (·.1) = ks.map Sum.inr ∧ ks.length < 64 ∧ ∀ ys : List Str, ys.Perm ks → sortedS ys = true → q (.lst (ys.map Dt.str)) S
  | _ => False
@[reducible] def rcSortS : DCr := fun xs S q => match xs with
  | [x] => seeL x S fun l => ∃ ks : List Str, l = ks.map Dt.str ∧ ks.length < 64 ∧ ∀ ys : List Str, ys.Perm ks → sortedS ys = true → q (.lst (ys.map Dt.str)) S
  | _ => False
@[reducible] def rcSortI : DCr := fun xs S q => match xs with
  | [x] => seeL x S fun l => ∃ ks : List Int, l = ks.map Dt.int ∧ ks.length < 64 ∧ ∀ ys : List Int, ys.Perm ks → ys.Pairwise (· ≤ ·) → q (.lst (ys.map Dt.int)) S
  | _ => False
@[reducible] def rcSum : DCr := fun xs S q => match xs with
  | [x] => seeL x S fun l => ∃ ks : List Int, l = ks.map Dt.int ∧ q (.int ks.sum) S
  | _ => False
/-- isinstance(x, str) and the like -/
@[reducible] def tyN (x : Dt) (k : String → Prop) : Prop := match x with
  | .str _ => k "str"
  | .int _ => k "int"
  | .bl _ => k "bool"
  | .non => k "NoneType"
  | .tup _ => k "tuple"
  | .lst _ => k "list"
  | .dic _ => k "dict"
  | _ => False
@[reducible] def rcIsi (n : String) : DCr := fun xs S q => match xs with
  | [x, .ty m] => m = n ∧ tyN x fun t => ∃ b, kitB t n = some b ∧ q (.bl b) S
  | _ => False
section
variable {X : Cx} {K : PySem.W.Frag}
theorem strs_rep {G : Hp} {ks : List Str} {vs : List V} (h : Reps K G (ks.map Dt.str) vs) : vs = ks.map V.str ∧ ∀ k ∈ ks, SOk k := by
  induction ks generalizing vs with
  | nil => exact ⟨h, fun _ h => by cases h⟩
  | cons k ks ih =>
    obtain ⟨v, r, rfl, ⟨rfl, h1⟩, h2⟩ := h
    obtain ⟨rfl, h3⟩ := ih h2
    exact ⟨rfl, fun x hx => by
      rcases List.mem_cons.mp hx with rfl | hx
      · exact h1
      · exact h3 x hx⟩
theorem strs_reps {G : Hp} {ks : List Str} (h : ∀ k ∈ ks, SOk k) : Reps K G (ks.map Dt.str) (ks.map V.str) := by
  induction ks with
  | nil => exact rfl
  | cons k ks ih => exact ⟨_, _, rfl, ⟨rfl, h k List.mem_cons_self⟩, ih fun x hx => h x (List.mem_cons_of_mem _ hx)⟩
theorem ints_rep {G : Hp} {ks : List Int} {vs : List V} (h : Reps K G (ks.map Dt.int) vs) : vs = ks.map V.int := by
  induction ks generalizing vs with
  | nil => exact h
  | cons k ks ih =>
    obtain ⟨v, r, rfl, h1, h2⟩ := h
    rw [ih h2, show v = _ from h1]
    rfl
theorem ints_reps {G : Hp} {ks : List Int} : Reps K G (ks.map Dt.int) (ks.map V.int) := by
  induction ks with
  | nil => exact rfl
  | cons k ks ih => exact ⟨_, _, rfl, rfl, ih⟩
theorem cd_len (hK : X.K = K) : CallR X (.builtin "len") (rDC K rcLen) := fun pins s σ H xs us Q I r ⟨ds, S, Z, q, g, rs, h, k⟩ => by
  subst hK
  match ds, h with
  | [.str z], h =>
    obtain ⟨v, rfl, rv⟩ := reps1 rs
    exact call_len pins s σ H _ us Q I r ⟨v, z.length, rfl, by rw [rv.1]; exact ⟨rv.2.len, rfl⟩, k.here g h rfl⟩
  | [.lst l], h =>
    obtain ⟨v, rfl, rv⟩ := reps1 rs
    obtain ⟨a, vs, rfl, h1, h2⟩ := rv
    exact call_len pins s σ H _ us Q I r ⟨_, vs.length, rfl, .inl ⟨vs, SqL.of (out_le h1), rfl⟩, by rw [← h2.len]; exact k.here g h rfl⟩
  | [.tup l], h =>
    obtain ⟨v, rfl, rv⟩ := reps1 rs
    obtain ⟨a, vs, rfl, h1, h2⟩ := rv
    exact call_len pins s σ H _ us Q I r ⟨_, vs.length, rfl, .inr ⟨vs, SqT.out h1, rfl⟩, by rw [← h2.len]; exact k.here g h rfl⟩
  | [.ref a], h =>
    obtain ⟨v, rfl, rv⟩ := reps1 rs
    obtain rfl := (show v = _ from rv)
    obtain ⟨c, h1, h2⟩ := h
    obtain ⟨o, h3, h4⟩ := g.c a _ h1
    cases c with
    | lst l => obtain ⟨vs, rfl, h5⟩ := h4; exact call_len pins s σ H _ us Q I r ⟨_, vs.length, rfl, .inl ⟨vs, SqL.of h3, rfl⟩, by rw [← h5.len]; exact k.here g h2 rfl⟩
    | dic l => obtain ⟨vs, rfl, h5⟩ := h4; exact call_lenD pins s σ H _ us Q I r ⟨_, vs, rfl, h3, by rw [← h5.len]; exact k.here g h2 rfl⟩
    | _ => exact h2.elim
theorem cd_abs : CallR X (.builtin "abs") (rDC K rcAbs) := fun pins s σ H xs us Q I r ⟨ds, S, Z, q, g, rs, h, k⟩ => by
  match ds, h with
  | [.int i], h =>
    obtain ⟨v, rfl, rv⟩ := reps1 rs
    exact call_absN pins s σ H _ us Q I r ⟨i, by rw [show v = _ from rv], k.here g h rfl⟩
theorem cd_min (hc : X.calm = true) : CallR X (.builtin "min") (rDC K rcMin) := fun pins s σ H xs us Q I r ⟨ds, S, Z, q, g, rs, h, k⟩ => by
  match ds, h with
  | [.int i, .int j], h =>
    obtain ⟨v, w, rfl, rv, rw'⟩ := reps2 rs
    obtain rfl := (show v = _ from rv)
    obtain rfl := (show w = _ from rw')
    exact call_min2N hc pins s σ H _ us Q I r (g_min (k.here g h rfl))
theorem cd_max (hc : X.calm = true) : CallR X (.builtin "max") (rDC K rcMax) := fun pins s σ H xs us Q I r ⟨ds, S, Z, q, g, rs, h, k⟩ => by
  match ds, h with
  | [.int i, .int j], h =>
    obtain ⟨v, w, rfl, rv, rw'⟩ := reps2 rs
    obtain rfl := (show v = _ from rv)
    obtain rfl := (show w = _ from rw')
    exact call_max2N hc pins s σ H _ us Q I r (g_max (k.here g h rfl))
theorem cd_int : CallR X (.type "int") (rDC K rcInt) := fun pins s σ H xs us Q I r ⟨ds, S, Z, q, g, rs, h, k⟩ => by
  match ds, h with
  | [.int i], h =>
    obtain ⟨v, rfl, rv⟩ := reps1 rs
    exact call_int1N pins s σ H _ us Q I r (.inl ⟨i, by rw [show v = _ from rv], k.here g h rfl⟩)
  | [.bl b], h =>
    obtain ⟨v, rfl, rv⟩ := reps1 rs
    exact call_int1N pins s σ H _ us Q I r (.inr ⟨b, by rw [show v = _ from rv], k.here g h rfl⟩)
theorem one_arg {ds : List Dt} {P : Dt → Prop} (h : match ds with
  | [x] => P x
  | _ => False) : ∃ x, ds = [x] ∧ P x := by
  match ds, h with
  | [x], h => exact ⟨x, rfl, h⟩
theorem cd_listF (hK : X.K = K) : CallR X (.type "list") (rDC K rcListF) := fun pins s σ H xs us Q I r ⟨ds, S, Z, q, g, rs, h, k⟩ => by
  subst hK
  obtain ⟨x, rfl, h⟩ := one_arg h
  obtain ⟨v, rfl, rv⟩ := reps1 rs
  obtain ⟨a, vs, l, rfl, h1, h2, h3⟩ := see_seq g rv h
  exact call_list_of pins s σ H _ us Q I r ⟨a, vs, rfl, h1, fun p np => k.new g np h3 ⟨p, vs, rfl, out_new g np, Reps.ext (ext_new g np) _ _ h2⟩⟩
theorem cd_listO (hK : X.K = K) : CallR X (.type "list") (rDC K rcListO) := fun pins s σ H xs us Q I r ⟨ds, S, Z, q, g, rs, h, k⟩ => by
  subst hK
  obtain ⟨x, rfl, h⟩ := one_arg h
  obtain ⟨v, rfl, rv⟩ := reps1 rs
  obtain ⟨a, vs, l, rfl, h1, h2, h3⟩ := see_seq g rv h
  exact call_list_of pins s σ H _ us Q I r ⟨a, vs, rfl, h1, fun p np => k.own g np (h3 p (g.nS np)) ⟨vs, rfl, h2⟩⟩
theorem keys_rep {G : Hp} {l : List (Key × Dt)} {vs : List (Key × V)} (h : KR KOk K G l vs) : Reps K G (l.map fun p => keyD p.1) (vs.map fun p => kV p.1) := by
  induction h with
  | nil => exact rfl
  | @cons p q l m h t ih => exact ⟨_, _, rfl, by show Rep K G (keyD p.1) (kV q.1); rw [← h.1]; exact key_rep h.2.1, ih⟩
theorem cd_keysF (hc : X.calm = true) : CallR X (.type "list") (rDC K rcKeysF) := fun pins s σ H xs us Q I r ⟨ds, S, Z, q, g, rs, h, k⟩ => by
  obtain ⟨x, rfl, h⟩ := one_arg h
  obtain ⟨v, rfl, rv⟩ := reps1 rs
  obtain ⟨a, vs, l, rfl, h1, h2, h3⟩ := see_dic g rv h
  exact call_listD hc pins s σ H _ us Q I r ⟨a, vs, rfl, h1, fun p np => k.new g np h3 ⟨p, _, rfl, out_new g np, Reps.ext (ext_new g np) _ _ (keys_rep (Repk.kr.mp h2))⟩⟩
theorem cd_copyO (hc : X.calm = true) : CallR X (.type "dict") (rDC K rcCopyO) := fun pins s σ H xs us Q I r ⟨ds, S, Z, q, g, rs, h, k⟩ => by
  obtain ⟨x, rfl, h⟩ := one_arg h
  obtain ⟨v, rfl, rv⟩ := reps1 rs
  obtain ⟨a, vs, l, rfl, h1, h2, h3⟩ := see_dic g rv h
  exact call_dictD pins s σ H _ us Q I r ⟨a, vs, rfl, h1, fun p np => k.own g np (h3 p (g.nS np)) ⟨vs, rfl, h2⟩⟩
theorem keyD_rep {G : Hp} {k : Key} {v : V} (h : Rep K G (keyD k) v) : v = kV k ∧ KOk k := by
  cases k with
  | inl i => exact ⟨h, trivial⟩
  | inr z => exact ⟨h.1, h.2⟩
theorem pairs_rep {Z H : Hp} {S : Store} : ∀ {m : List (Key × Dt)} {vs : List V}, Reps K (out H S Z) (m.map fun p => Dt.tup [keyD p.1, p.2]) vs →
    ∃ (ps : List Addr) (kvs : List (Key × V)), vs = ps.map V.ref ∧ Paired (fun p kv => SqT K H p [kV kv.1, kv.2]) ps kvs ∧ KR KOk K (out H S Z) m kvs
  | [], vs, h => by
    rw [show vs = [] from h]
    exact ⟨[], [], rfl, .nil, .nil⟩
  | (key, d) :: m, vs, h => by
    obtain ⟨v, r, rfl, h1, h2⟩ := h
    obtain ⟨ps, kvs, rfl, h3, h4⟩ := pairs_rep h2
    obtain ⟨a, us, rfl, h5, h6⟩ := h1
    obtain ⟨u1, u2, rfl, h7, h8⟩ := reps2 h6
    obtain ⟨rfl, ko⟩ := keyD_rep h7
    exact ⟨a :: ps, (key, u2) :: kvs, rfl, .cons (SqT.out h5) h3, .cons ⟨rfl, ko, h8⟩ h4⟩
theorem cd_pairsO (hK : X.K = K) (hc : X.calm = true) : CallR X (.type "dict") (rDC K rcPairsO) := fun pins s σ H xs us Q I r ⟨ds, S, Z, q, g, rs, h, k⟩ => by
  obtain ⟨x, rfl, h⟩ := one_arg h
  obtain ⟨v, rfl, rv⟩ := reps1 rs
  obtain ⟨a, vs, l, rfl, h1, h2, m, rfl, h3⟩ := see_lst g rv h
  obtain ⟨ps, kvs, rfl, h4, h5⟩ := pairs_rep h2
  exact call_dictPK hK hc pins s σ H _ us Q I r ⟨a, ps, kvs, rfl, SqL.of h1, h4, fun p np => k.own g np (h3 p (g.nS np)) ⟨_, rfl, Repk.kr.mpr (KR.merge .nil h5)⟩⟩
theorem cd_pairsF (hK : X.K = K) (hc : X.calm = true) : CallR X (.type "dict") (rDC K rcPairsF) := fun pins s σ H xs us Q I r ⟨ds, S, Z, q, g, rs, h, k⟩ => by
  obtain ⟨x, rfl, h⟩ := one_arg h
  obtain ⟨v, rfl, rv⟩ := reps1 rs
  obtain ⟨a, vs, l, rfl, h1, h2, m, rfl, h3⟩ := see_lst g rv h
  obtain ⟨ps, kvs, rfl, h4, h5⟩ := pairs_rep h2
  exact call_dictPK hK hc pins s σ H _ us Q I r ⟨a, ps, kvs, rfl, SqL.of h1, h4, fun p np => k.new g np h3 ⟨p, _, rfl, .inl (out_new g np), Repk.kr.mpr (KR.merge .nil (h5.ext (ext_new g np)))⟩⟩
theorem cd_sortD (hc : X.calm = true) : CallR X (.builtin "sorted") (rDC K rcSortD) := fun pins s σ H xs us Q I r ⟨ds, S, Z, q, g, rs, h, k⟩ => by
  obtain ⟨x, rfl, h⟩ := one_arg h
  obtain ⟨v, rfl, rv⟩ := reps1 rs
  obtain ⟨a, vs, l, rfl, h1, h2, ks, e, hl, h3⟩ := see_dic g rv h
  have ek : vs.map (·.1) = ks.map Sum.inr := by
    rw [← e]
    have := Repk.kr.mp h2
    clear h1 e h3 r h h2
    induction this with
    | nil => rfl
    | cons h t ih => rw [List.map_cons, List.map_cons, ih, h.1]
  have ok : ∀ z ∈ ks, SOk z := fun z hz => by
    have hz : (Sum.inr z : Key) ∈ l.map (·.1) := by rw [e]; exact List.mem_map.mpr ⟨z, hz, rfl⟩
    obtain ⟨p, hp, ep⟩ := List.mem_map.mp hz
    obtain ⟨i, hi⟩ := List.getElem?_of_mem hp
    obtain ⟨_, _, _, h5, _⟩ := Paired.get (Repk.kr.mp h2) hi
    rw [ep] at h5
    exact h5
  exact call_sortedD hc pins s σ H _ us Q I r ⟨a, vs, ks, rfl, h1, ek, hl, fun ys p pe so np => k.new g np (h3 ys pe so) ⟨p, _, rfl, out_new g np, strs_reps fun z hz => ok z (pe.mem_iff.mp hz)⟩⟩
theorem cd_sortS (hK : X.K = K) : CallR X (.builtin "sorted") (rDC K rcSortS) := fun pins s σ H xs us Q I r ⟨ds, S, Z, q, g, rs, h, k⟩ => by
  obtain ⟨x, rfl, h⟩ := one_arg h
  obtain ⟨v, rfl, rv⟩ := reps1 rs
  obtain ⟨a, vs, l, rfl, h1, h2, ks, rfl, hl, h3⟩ := see_lst g rv h
  obtain ⟨rfl, ok⟩ := strs_rep h2
  exact cr_sortedSK hK pins s σ H _ us Q I r ⟨a, ks, rfl, SqL.of h1, hl, fun ys p pe so np => k.new g np (h3 ys pe so) ⟨p, _, rfl, out_new g np, strs_reps fun z hz => ok z (pe.mem_iff.mp hz)⟩⟩
theorem cd_sortI (hK : X.K = K) : CallR X (.builtin "sorted") (rDC K rcSortI) := fun pins s σ H xs us Q I r ⟨ds, S, Z, q, g, rs, h, k⟩ => by
  obtain ⟨x, rfl, h⟩ := one_arg h
  obtain ⟨v, rfl, rv⟩ := reps1 rs
  obtain ⟨a, vs, l, rfl, h1, h2, ks, rfl, hl, h3⟩ := see_lst g rv h
  obtain rfl := ints_rep h2
  exact cr_sortedK hK pins s σ H _ us Q I r ⟨a, ks, rfl, SqL.of h1, hl, fun ys p pe so np => k.new g np (h3 ys pe so) ⟨p, _, rfl, out_new g np, ints_reps⟩⟩
theorem cd_sum (hK : X.K = K) (hc : X.calm = true) : CallR X (.builtin "sum") (rDC K rcSum) := fun pins s σ H xs us Q I r ⟨ds, S, Z, q, g, rs, h, k⟩ => by
  subst hK
  obtain ⟨x, rfl, h⟩ := one_arg h
  obtain ⟨v, rfl, rv⟩ := reps1 rs
  obtain ⟨a, vs, l, rfl, h1, h2, ks, rfl, h3⟩ := see_lst g rv h
  obtain rfl := ints_rep h2
  exact cr_sum hc pins s σ H _ us Q I r ⟨a, ks, rfl, SqL.of h1, k.here g h3 rfl⟩
theorem tyN_of {Z H : Hp} {S : Store} {x : Dt} {v : V} {f : String → Prop} (r : Rep K (out H S Z) x v) (h : tyN x f) : ∃ t, TyX K H v (.type t) ∧ f t := by
  cases x with
  | str z => rw [r.1]; exact ⟨_, .base (.str z), h⟩
  | int i => rw [show v = _ from r]; exact ⟨_, .base (.int i), h⟩
  | bl b => rw [show v = _ from r]; exact ⟨_, .base (.bl b), h⟩
  | non => rw [show v = _ from r]; exact ⟨_, .base .non, h⟩
  | tup l =>
    obtain ⟨a, vs, rfl, h1, h2⟩ := r
    rcases SqT.out h1 with (h1 | ⟨o, h1⟩) | ⟨o, its, n, h1, h3, _⟩
    · exact ⟨_, .base (.tup h1), h⟩
    · exact ⟨_, .fTuple h1, h⟩
    · exact ⟨_, .kTuple h1 h3, h⟩
  | lst l =>
    obtain ⟨a, vs, rfl, h1, h2⟩ := r
    exact ⟨_, .base (.lst (out_le h1)), h⟩
  | dic l =>
    obtain ⟨a, vs, rfl, h1, h2⟩ := r
    rcases Rd.out h1 with h1 | ⟨o, h1⟩
    · exact ⟨_, .base (.dK h1), h⟩
    · exact ⟨_, .fDict h1, h⟩
  | _ => exact h.elim
theorem cd_isi {n : String} (hK : X.K = K) : CallR X (.builtin "isinstance") (rDC K (rcIsi n)) := fun pins s σ H xs us Q I r ⟨ds, S, Z, q, g, rs, h, k⟩ => by
  subst hK
  match ds, h with
  | [x, .ty m], h =>
    obtain ⟨rfl, h⟩ := h
    obtain ⟨v, w, rfl, rv, rw'⟩ := reps2 rs
    obtain rfl := (show w = _ from rw')
    obtain ⟨t, ty, b, e, h⟩ := tyN_of rv h
    exact call_isi pins s σ H _ us Q I r ⟨v, .ty m, _, _, b, rfl, .ty m, ty, kit_ty e, k.here g h rfl⟩
/-! ## methods of lists -/
@[reducible] def rmAppend : DMr := fun x xs S q => match x, xs with
  | .ref a, [y] => ∃ l, S a = some (.lst l) ∧ l.length < sizeLine ∧ q .non (sput S a (.lst (l ++ [y])))
  | _, _ => False
@[reducible] def rmPop0 : DMr := fun x xs S q => match x, xs with
  | .ref a, [] => ∃ l, S a = some (.lst l) ∧ ∃ y, l[l.length - 1]? = some y ∧ q y (sput S a (.lst l.dropLast))
  | _, _ => False
@[reducible] def rmPop : DMr := fun x xs S q => match x, xs with
  | .ref a, [.int i] => ∃ l, S a = some (.lst l) ∧ (0 ≤ i ∧ i < l.length ∧ i < 2 ^ 63) ∧ ∃ y, l[i.toNat]? = some y ∧ q y (sput S a (.lst (l.eraseIdx i.toNat)))
  | _, _ => False
@[reducible] def rmInsert : DMr := fun x xs S q => match x, xs with
  | .ref a, [.int i, y] => ∃ l, S a = some (.lst l) ∧ (l.length < sizeLine ∧ 0 ≤ i ∧ i < 2 ^ 63) ∧ q .non (sput S a (.lst (l.take i.toNat ++ [y] ++ l.drop i.toNat)))
  | _, _ => False
theorem md_append : MtR X "list.append" (rDM K rmAppend) := fun pins s σ H x xs v us Q I rx r ⟨d, ds, S, Z, q, g, rd, rs, h, k⟩ => by
  match d, ds, h with
  | .ref a, [y], h =>
    obtain ⟨l, h1, h2, h3⟩ := h
    obtain ⟨w, rfl, rw'⟩ := reps1 rs
    obtain ⟨o, h4, vs, rfl, h5⟩ := g.c a _ h1
    have cr : CRep K (out H S Z) (.lst (l ++ [y])) (.lst (vs ++ [w])) := ⟨_, rfl, Reps.pair.mpr (Paired.app (Reps.pair.mp h5) (.cons rw' .nil))⟩
    exact mt_append pins s σ H x _ v us Q I rx r ⟨a, vs, w, rd, rfl, h4, by rw [← h5.len]; exact h2, k _ .non _ _ (g.mut h1 cr) (by rw [out_mut h1]; exact Ext.refl) rfl h3⟩
theorem reps_nil {G : Hp} {vs : List V} (h : Reps K G [] vs) : vs = [] := h
theorem md_pop0 : MtR X "list.pop" (rDM K rmPop0) := fun pins s σ H x xs v us Q I rx r ⟨d, ds, S, Z, q, g, rd, rs, h, k⟩ => by
  match d, ds, h with
  | .ref a, [], h =>
    obtain ⟨l, h1, y, h2, h3⟩ := h
    have e1 := reps_nil rs
    obtain ⟨o, h4, vs, rfl, h5⟩ := g.c a _ h1
    obtain ⟨w, h6, h7⟩ := Paired.get (Reps.pair.mp h5) h2
    have cr : CRep K (out H S Z) (.lst l.dropLast) (.lst vs.dropLast) := ⟨_, rfl, Reps.pair.mpr (by
      rw [List.dropLast_eq_take, List.dropLast_eq_take, h5.len]
      exact Paired.take _ (Reps.pair.mp h5))⟩
    exact mt_pop pins s σ H x _ v us Q I rx r ⟨a, vs, w, rd, e1, h4, by rw [← h5.len]; exact h6, k w y _ _ (g.mut h1 cr) (by rw [out_mut h1]; exact Ext.refl) (by rw [out_mut h1]; exact h7) h3⟩
theorem Paired.erase {α β : Type} {F : α → β → Prop} : ∀ {l : List α} {m : List β} (i : Nat), Paired F l m → Paired F (l.eraseIdx i) (m.eraseIdx i)
  | _, _, _, .nil => .nil
  | _, _, 0, .cons _ t => t
  | _, _, i + 1, .cons r t => .cons r (Paired.erase i t)
theorem md_pop : MtR X "list.pop" (rDM K rmPop) := fun pins s σ H x xs v us Q I rx r ⟨d, ds, S, Z, q, g, rd, rs, h, k⟩ => by
  match d, ds, h with
  | .ref a, [.int i], h =>
    obtain ⟨l, h1, ⟨i0, i1, i2⟩, y, h2, h3⟩ := h
    obtain ⟨w, rfl, rw'⟩ := reps1 rs
    obtain ⟨o, h4, vs, rfl, h5⟩ := g.c a _ h1
    obtain ⟨w2, h6, h7⟩ := Paired.get (Reps.pair.mp h5) h2
    have cr : CRep K (out H S Z) (.lst (l.eraseIdx i.toNat)) (.lst (vs.eraseIdx i.toNat)) := ⟨_, rfl, Reps.pair.mpr (Paired.erase _ (Reps.pair.mp h5))⟩
    have lv := h5.len
    have e2 : seqIndex? i vs.length = some i.toNat := by
      unfold seqIndex?
      have h1 : ¬ i < 0 := by omega
      have h2 : i < (vs.length : Int) := by omega
      simp [h1, i0, h2]
    exact mt_popAt pins s σ H x _ v us Q I rx r ⟨a, vs, i, i.toNat, w2, rd, by rw [show w = _ from rw'], h4, by omega, i2, e2, h6, k w2 y _ _ (g.mut h1 cr) (by rw [out_mut h1]; exact Ext.refl) (by rw [out_mut h1]; exact h7) h3⟩
theorem md_insert : MtR X "list.insert" (rDM K rmInsert) := fun pins s σ H x xs v us Q I rx r ⟨d, ds, S, Z, q, g, rd, rs, h, k⟩ => by
  match d, ds, h with
  | .ref a, [.int i, y], h =>
    obtain ⟨l, h1, ⟨l1, i0, i1⟩, h3⟩ := h
    obtain ⟨w, w2, rfl, rw1, rw2⟩ := reps2 rs
    obtain ⟨o, h4, vs, rfl, h5⟩ := g.c a _ h1
    have cr : CRep K (out H S Z) (.lst (l.take i.toNat ++ [y] ++ l.drop i.toNat)) (.lst (vs.take i.toNat ++ [w2] ++ vs.drop i.toNat)) := ⟨_, rfl, Reps.pair.mpr (Paired.app (Paired.app (Paired.take _ (Reps.pair.mp h5)) (.cons rw2 .nil)) (Paired.drop _ (Reps.pair.mp h5)))⟩
    exact mt_insert pins s σ H x _ v us Q I rx r ⟨a, vs, i, w2, rd, by rw [show w = _ from rw1], h4, by rw [← h5.len]; exact l1, i0, i1, k _ .non _ _ (g.mut h1 cr) (by rw [out_mut h1]; exact Ext.refl) rfl h3⟩
end
/-! ## tuple(x) -/
@[reducible] def dTupOf (a : DTE) : DTE := fun δ S q => a δ S fun x S1 => seeQ x S1 fun l => q (.tup l) S1
theorem de_tupOf {X : Cx} {K : PySem.W.Frag} {E : XK} {e : DX} {p pos : Pos} {a : Expr} {da : DTE} (hK : X.K = K) (hg : Gl X "tuple") (hm : X.mg "tuple" = none) (ha : PE X a (tD K E e da)) (na : starEach [a] X.env = (false, eval a X.env) :: starEach [] X.env := by rfl) :
    PE X (.Call (.Name "tuple" p) [a] [] pos) (tD K E e (dTupOf da)) := PE.imp (pe_tupleOfK (p := p) (pos := pos) hK hg hm ha na) fun σ H Q h => by
  refine tD_seq (f := fun x S q => seeQ x S fun l => q (.tup l) S) h fun v x δ S Z H1 q t r h k => ?_
  have lists : (seeL x S fun l => q (.tup l) S) → kTup K v H1 Q := fun h => by
    obtain ⟨a, vs, l, rfl, h1, h2, h3⟩ := see_lst t.good r h
    exact .inl ⟨a, vs, rfl, SqL.of h1, fun p np => k.new t.good np h3 ⟨p, vs, rfl, SqT.of (out_new t.good np), Reps.ext (ext_new t.good np) _ _ h2⟩⟩
  cases x with
  | tup m =>
    obtain ⟨b, ws, e1, h4, h5⟩ := r
    cases e1
    exact .inr ⟨_, _, rfl, SqT.out h4, k.here t.good (show q (.tup m) S from h) ⟨_, _, rfl, h4, h5⟩⟩
  | _ => exact lists h
end Dn

/-! told(lambda: ..) -/
namespace Dn
open PySem PySem.Spec PyProof.Rows L2 Pr LamX
/-- the tables of codes that the store holds -/
def TabX (T : List (Addr × Str)) (S : Store) : Prop := (∀ p ∈ T, S p.1 = some (.tbl p.2)) ∧ ∀ a q, S a = some (.tbl q) → (a, q) ∈ T
theorem TabX.put {T : List (Addr × Str)} {S : Store} {a : Addr} {c : Cell} (h : TabX T S) (n1 : ∀ q, S a ≠ some (.tbl q)) (n2 : ∀ q, c ≠ .tbl q) : TabX T (sput S a c) := by
  refine ⟨fun p hp => ?_, fun b q hq => ?_⟩
  · have h1 := h.1 p hp
    rw [sput_ne fun z => n1 p.2 (by rw [← z]; exact h1)]
    exact h1
  · by_cases hb : b = a
    · subst hb
      rw [sput_same] at hq
      exact absurd (Option.some.inj hq) (n2 q)
    · rw [sput_ne hb] at hq
      exact h.2 b q hq
section
variable {K : PySem.W.Frag} {Z H H1 : Hp} {S : Store} {T : List (Addr × Str)}
theorem tabs_of (g : Good K Z H S) (h : TabX T S) : Tabs T H := fun p hp => by
  obtain ⟨o, h1, ps, rfl, h2, h3⟩ := g.c _ _ (h.1 p hp)
  exact ⟨ps, h1, h2, fun pos cv hc => by
    obtain ⟨c, e1, e2⟩ := h3 pos cv hc
    exact ⟨c, e1, out_le e2⟩⟩
/-- the tables grow -/
theorem good_tabs (g : Good K Z H S) (h : TabX T S) (x : ExtN H H1) (t : Tabs T H1) : Good K Z H1 S ∧ Ext (out H S Z) (out H1 S Z) := by
  have e : Ext (out H S Z) (out H1 S Z) := fun b o hb nt => by
    obtain ⟨h1, h2, h3⟩ := out_some hb
    rw [out_of h1 h2]
    exact ⟨o, x b o h3 fun ps q => nt ⟨ps, q⟩, .inl rfl⟩
  refine ⟨⟨fun b o hb => ?_, fun a c hc => ?_⟩, e⟩
  · obtain ⟨h1, h2, h3⟩ := g.z b o hb
    refine ⟨x b o h1 fun ps z => ?_, h2, h3⟩
    rcases h3 with ⟨vs, h3⟩ | ⟨kvs, h3⟩ <;> rw [h3] at z <;> cases z
  · have cells : ∀ b d, S b = some d → (∀ q, d ≠ .tbl q) → ∃ o, H1 b = some o ∧ H b = some o ∧ CRep K (out H S Z) d o ∧ (∀ φ, o ≠ .ext φ) := fun b d hd nt => by
      obtain ⟨o, h1, h2⟩ := g.c b d hd
      refine ⟨o, x b o h1 fun ps z => ?_, h1, h2, fun φ z => ?_⟩
      all_goals
        subst z
        cases d with
        | tbl q => exact nt q rfl
        | lst l => obtain ⟨_, h, _⟩ := h2; cases h
        | dic l => obtain ⟨_, h, _⟩ := h2; cases h
        | dct l => obtain ⟨_, h, _⟩ := h2; cases h
        | lck u l => obtain ⟨_, _, _, h, _⟩ := h2; cases h
        | ins C nm l => obtain ⟨_, _, h, _⟩ := h2; cases h
    by_cases ct : ∃ q, c = .tbl q
    · obtain ⟨q, rfl⟩ := ct
      obtain ⟨ps, t1, t2, t3⟩ := t _ (h.2 a q hc)
      refine ⟨_, t1, ps, rfl, t2, fun pos cv hcv => ?_⟩
      obtain ⟨c', e1, e2⟩ := t3 pos cv hcv
      refine ⟨c', e1, ?_⟩
      have n1 : S c' = none := by
        cases hs : S c' with
        | none => rfl
        | some d =>
          by_cases dt : ∃ q, d = .tbl q
          · obtain ⟨q', rfl⟩ := dt
            obtain ⟨ps', t1', _⟩ := t _ (h.2 c' q' hs)
            rw [show H1 c' = _ from t1'] at e2
            exact absurd (Option.some.inj e2).symm (codeO_ne ps')
          · obtain ⟨o, h1, _, _, h4⟩ := cells c' d hs fun q z => dt ⟨q, z⟩
            rw [h1] at e2
            exact absurd (Option.some.inj e2) (h4 _)
      have n2 : Z c' = none := by
        cases hs : Z c' with
        | none => rfl
        | some d =>
          obtain ⟨q1, q2, q3⟩ := g.z c' d hs
          have q4 : H1 c' = some d := x c' d q1 fun ps z => by
            rcases q3 with ⟨vs, h3⟩ | ⟨kvs, h3⟩ <;> rw [h3] at z <;> cases z
          rw [q4] at e2
          have e2 := Option.some.inj e2
          rcases q3 with ⟨vs, h3⟩ | ⟨kvs, h3⟩ <;> rw [h3] at e2 <;> exact nomatch e2
      rw [out_of n1 n2]
      exact e2
    · obtain ⟨o, h1, _, h3, _⟩ := cells a c hc fun q z => ct ⟨q, z⟩
      exact ⟨o, h1, CRep.ext e _ _ h3⟩
end
section
variable {X : Cx} {K : PySem.W.Frag} {E : XK} {e : DX}
/-- told(lambda: ..) -/
@[reducible] def dTold (T : List (Addr × Str)) (CS : Addr) (ret : Str) (db : DX → DTE) : DTE := fun δ S q => TabX T S ∧ db (fun c S' => c = CS ∧ q (.str ret) S') δ S q
theorem de_told {T : List (Addr × Str)} {x a ee ret : Str} {g c P CS : Addr} {k : Nat} {pg : Arguments} {sg : Scope} {dV kV doc pm cdv ct oc : Value} {an od : Option Addr} {osl : Array (Option Value)} {Ng : List Str} {j : Nat}
    {params : Arguments} {body : Expr} {scope : Scope} {db : DX → DTE} {p lpos pos p1 p2 p3 p4 p5 p6 p7 p8 : Pos} (hK : X.K = K) (hg : Gl X x) (hm : X.mg x = some (.ref g)) (hk : PySem.W.keepIn X.K (.ref g) = true)
    (lk : X.K.lookup g = some ⟨oc, od, .func (PySem.W.fnOf x x pg [.Try [.Return (some (.Call (.Name a p1) [] [] p2)) p3] [.ExceptHandler (some (.Name ee p4)) none [.Return (some (.Constant (.str ret) j p5)) p6] p7] [] [] p8] sg dV kV doc pm an cdv ct), osl⟩) (hcg : PySem.W.codeIn X.K cdv x = true)
    (hb : L2.Binds X.K (PySem.W.fnOf x x pg [.Try [.Return (some (.Call (.Name a p1) [] [] p2)) p3] [.ExceptHandler (some (.Name ee p4)) none [.Return (some (.Constant (.str ret) j p5)) p6] p7] [] [] p8] sg dV kV doc pm an cdv ct) [a] []) (Sg : FnScope Ng [a] sg) (hNg : Ng[0]? = some a) (hva : Vis sg a)
    (hge : sg.names.lookup ee = some .globalImplicit) (hme : X.mg ee = some (.ref CS)) (exm : PySem.W.exmOne K (.ref CS) (.ref CS) = some true) (TB : TabB X.base X.mg c P) (hcode : X.env.code = .ref c) (hmT : (P, X.env.qual ++ "<lambda>") ∈ T) (hu : ∀ p ∈ T, p.1 = P → p.2 = X.env.qual ++ "<lambda>")
    (hr : Room (k + 2) X.A) (L : LamS X.env.scope scope) (hdef : defaultsOf params X.env = ([], []))
    (hbind : ∀ (q : Str) (cl : List (Str × Addr)) (pm cv ctv : Value), bindArgs (PySem.W.kla_fn "<lambda>" q params body scope cl pm cv ctv) ⟨[], []⟩ = pure [])
    (hbody : ∀ (e' : DX) (A : Around) (outer : List Env) (s : Shared) (H : Hp) (E : XK) (f c' : Addr), Room k (A.deeper (lamEnv X scope s.heap.objs.size f c')) → PE (lamCx X A outer s H E scope f c') body (tD K E e' (db e')))
    (h0 : ∀ f : Addr, (L2.start Ng [V.ref f])[0]? = some (some (V.ref f)) := by intro _; rfl) (sok : SOk ret := by exact ⟨by decide +kernel, by decide +kernel⟩) (hde : (ee == ("__debug__" : Str)) = false := by decide) (hdb : (x == ("__debug__" : Str)) = false := by decide) (hd : (a == ("__debug__" : Str)) = false := by decide) (hcd : (a == ("__classdict__" : Str)) = false := by decide) :
    PE X (.Call (.Name x p) [.Lambda params body scope lpos] [] pos) (tD K E e (dTold T CS ret db)) := by
  subst hK
  refine PE.imp (pe_lamcall (T := T) (TT := TTold X.K CS ret) (t := fun E σ H Q => ∃ e', tD X.K E e' (db e') σ H Q) (p := p) (lpos := lpos) (pos := pos) hg hm hk lk hcg hb Sg hNg hva
    (told_gives (X := X) (Ng := Ng) (x := x) (a := a) (e := ee) (q := X.env.qual ++ "<lambda>") (ret := ret) (sg := sg) (g := g) (CS := CS) (cdg := cdv) hge hme hde h0) TB hcode hmT hu hr L hdef hbind
    (fun A outer s H E f c' hr' => ⟨fun pins s1 σ H1 Q I ⟨e', h⟩ => (hbody e' A outer s H E f c' hr').run pins s1 σ H1 Q I h⟩) hdb hd hcd) fun σ H Q h => ?_
  obtain ⟨δ, S, Z, q, t, ⟨tx, h⟩, k⟩ := h
  refine ⟨tabs_of t.good tx, fun H1 x1 t1 => ?_⟩
  obtain ⟨g1, e1⟩ := good_tabs t.good tx x1 t1
  refine ⟨_, δ, S, Z, q, ⟨g1, t.sl.ext e1, fun c' H' S' g' x' hq => ?_⟩, h, k.ext e1⟩
  obtain ⟨rfl, hq⟩ := hq
  exact ⟨true, exm, fun _ => k (.str ret) (.str ret) H' S' g' (e1.trans x') ⟨rfl, sok⟩ hq, fun z => by cases z⟩
theorem paLam {A : Around} {outer : List Env} {s : Shared} {H : Hp} {E : XK} {scope : Scope} {f c' : Addr} : Passes (L2.CX (lamCx X A outer s H E scope f c').prog (lamCx X A outer s H E scope f c').w) (lamCx X A outer s H E scope f c') E := passes_call (takes_of rfl rfl rfl rfl) fun _ _ _ _ z => z
end
end Dn

namespace Dn
open PySem PySem.Spec PyProof.Rows L2 Pr
theorem repL_pair {α β : Type} {F : α → β → Prop} {l : List α} {m : List β} (h : Paired F l m) : ∀ n : Nat, Paired F (List.replicate n l).flatten (List.replicate n m).flatten
  | 0 => .nil
  | n + 1 => by
    rw [List.replicate_succ, List.replicate_succ, List.flatten_cons, List.flatten_cons]
    exact Paired.app h (repL_pair h n)
section
variable {X : Cx} {K : PySem.W.Frag}
theorem foldl_rep (c : Array Nat) : ∀ (n : Nat) (acc : Array Nat), ((List.replicate n c).foldl (· ++ ·) acc).toList = acc.toList ++ (List.replicate n c.toList).flatten
  | 0, acc => by simp
  | n + 1, acc => by
    rw [List.replicate_succ, List.foldl_cons, foldl_rep c n, List.replicate_succ, List.flatten_cons, Array.toList_append, List.append_assoc]
theorem mul_rep {z : Str} {n : Int} (h0 : 0 ≤ n) : Txt.mul z n = repS z n.toNat := by
  have ext : ∀ a b : Str, a.cps.toList = b.cps.toList → a = b := fun a b h => by
    obtain ⟨a⟩ := a
    obtain ⟨b⟩ := b
    congr 1
    exact Array.toList_inj.mp h
  apply ext
  unfold Txt.mul repS
  by_cases h1 : n < 1
  · have : n = 0 := by omega
    subst this
    rw [if_pos h1]
    rfl
  · rw [if_neg h1]
    split
    · rename_i hc
      rw [Bool.or_eq_true] at hc
      rcases hc with hc | hc
      · have : n = 1 := by simpa using hc
        subst this
        simp
      · have : z.cps.size = 0 := by
          have hc : (z.cps.size == 0) = true := hc
          simpa using hc
        have e : z.cps.toList = [] := by rw [← List.length_eq_zero_iff, Array.length_toList]; exact this
        rw [e]
        simp
    · simp [foldl_rep]
theorem repS_len (z : Str) (n : Nat) : (repS z n).length = n * z.length := by
  rw [len_cps, len_cps]
  unfold repS
  simp
theorem sok_rep {z : Str} {n : Nat} (h : SOk z) (hl : z.length * n ≤ sizeLine) : SOk (repS z n) := ⟨by rw [repS_len, Nat.mul_comm]; exact hl, by
  rw [sok_all]
  intro c hc
  unfold repS at hc
  simp only [List.mem_flatten] at hc
  obtain ⟨l, hl, hc⟩ := hc
  rw [List.eq_of_mem_replicate hl] at hc
  exact sok_all.mp h.ok c hc⟩
theorem od_mul : OpR X (binaryOp .Mult) (rD K rMul) := fun pins s σ H x y v u Q I rv ru ⟨dx, dy, S, Z, q, g, rx, ry, h, k⟩ => by
  have lists : ∀ n : Int, y = .int n → (seeL dx S fun l => (-(2 ^ 63) ≤ n ∧ n < 2 ^ 63 ∧ l.length * n.toNat ≤ sizeLine) ∧ q (.lst (List.replicate n.toNat l).flatten) S) → wpAny (model X.prog X.w) X.A (binaryOp .Mult v u) (EP X pins σ Q) X.xe s := fun n e h => by
    obtain ⟨a, xs, l, rfl, ha, ra, ⟨h1, h2, h3⟩, h⟩ := see_lst g rx h
    exact op_rep pins s σ H _ _ v u Q I rv ru ⟨a, n, xs, rfl, e, ha, h1, h2, by rw [← ra.len]; exact h3, fun p np => k.new g np h ⟨p, _, rfl, out_new g np, Reps.pair.mpr (repL_pair (Reps.pair.mp (Reps.ext (ext_new g np) _ _ ra)) _)⟩⟩
  cases dy with
  | int n =>
    cases dx with
    | int i => exact op_mul pins s σ H x y v u Q I rv ru ⟨i, n, rx, ry, h.1, k.here g h.2 rfl⟩
    | str z =>
      obtain ⟨⟨h1, h2, h3⟩, h⟩ := h
      obtain rfl := rx.1
      obtain rfl := (show y = _ from ry)
      obtain ⟨t, rfl⟩ := (show ∃ t, v = Value.str z t from rv)
      obtain ⟨t', rfl⟩ := (show ∃ t, u = Value.int n t from ru)
      refine SB.mul ⟨?_, fun h4 h5 => ?_, fun h4 h5 => ?_⟩ fun t2 k2 => ⟨.str (Txt.mul z n), H, I.tok _, ⟨_, rfl⟩, ?_⟩
      · have a1 : ¬ n < -(2 ^ 63 : Int) := by omega
        have a2 : ¬ n ≥ 2 ^ 63 := by omega
        rw [decide_eq_false a1, decide_eq_false a2]; rfl
      · intro hc
        have hz := rx.2.len
        rw [sizeLine_eq] at hz
        have a1 : (2 ^ 63 - 1 : Int) / n ≥ (2 ^ 63 - 1) / 2 ^ 24 := by
          apply Int.le_ediv_of_mul_le (by omega)
          have : (2 ^ 63 - 1 : Int) / 2 ^ 24 * n ≤ (2 ^ 63 - 1 : Int) / 2 ^ 24 * 2 ^ 24 := Int.mul_le_mul_of_nonneg_left (by omega) (by decide)
          exact Int.le_trans this (by decide)
        have a2 : ((2 ^ 63 - 1) / 2 ^ 24 : Int) = 549755813887 := by decide
        omega
      · unfold Builtin.Str.tooLong
        have := h3
        rw [sizeLine_eq] at this ⊢
        simp
        omega
      · rw [mul_rep h1]
        exact k.here g h ⟨rfl, sok_rep rx.2 h3⟩
    | _ => exact lists n ry h
  | _ => cases dx <;> exact h.elim
theorem od_inG (neg : Bool) {op : CmpOp} (hK : X.K = K) (o1 : OpR X (compareOp op) fun x y H Q => ∃ d ds, Dp X.K H x d ∧ Dp X.K H y (.list ds) ∧ SeqAt.shaped d = true ∧ SeqAt.shaped (.list ds) = true ∧ Q (.bl (if neg then !(ds.any fun z => PyData.eqv z d) else ds.any fun z => PyData.eqv z d)) H)
    (o2 : OpR X (compareOp op) fun x y H Q => ∃ i j, x = .str i ∧ y = .str j ∧ Q (.bl (if neg then !hasS j i else hasS j i)) H) (o3 : OpR X (compareOp op) (rIn X.K neg)) : OpR X (compareOp op) (rD K (dIn neg)) := fun pins s σ H x y v u Q I rv ru ⟨dx, dy, S, Z, q, g, rx, ry, h, k⟩ => by
  subst hK
  have lists : (seeL dy S fun l => (isDat dx = true ∧ areDat l = true ∧ (py dx).depth ≤ 64 ∧ (py (.lst l)).depth ≤ 64) ∧ q (.bl (if neg then !memD dx l else memD dx l)) S) → wpAny (model X.prog X.w) X.A (compareOp op v u) (EP X pins σ Q) X.xe s := fun h => by
    obtain ⟨a, xs, l, rfl, ha, ra, ⟨h1, h2, h3, h4⟩, h⟩ := see_lst g ry h
    have dl : Dp X.K H (.ref a) (.list (pys l)) := .lst (SqL.of ha) (Reps.dp l xs h2 ra)
    have e : ((pys l).any fun z => PyData.eqv z (py dx)) = memD dx l := by
      unfold memD
      rw [pys_map, List.any_map]
      rfl
    refine o1 pins s σ H _ _ v u Q I rv ru ⟨py dx, pys l, Rep.dp _ _ h1 rx, dl, Rep.shaped rx h3, ?_, by rw [e]; exact k.here g h rfl⟩
    show ((PyData.list (pys l)).canLay0 && decide ((PyData.list (pys l)).depth ≤ 64)) = true
    rw [decide_eq_true (show (PyData.list (pys l)).depth ≤ 64 from h4), Bool.and_true]
    exact Reps.lay l xs ra
  cases dy with
  | str z =>
    obtain ⟨t, rfl, h⟩ := h
    exact o2 pins s σ H x y v u Q I rv ru ⟨t, z, rx.1, ry.1, k.here g h rfl⟩
  | tup l =>
    obtain ⟨⟨h1, h2, h3⟩, h⟩ := h
    obtain ⟨a, xs, rfl, ha, ra⟩ := ry
    have flat1 : ∀ (d : Dt) (v : V) (G : Hp), isDat d = true → (py d).depth = 0 → Rep X.K G d v → flatV v = true ∧ ∀ (e : Dt) (w : V), isDat e = true → (py e).depth = 0 → Rep X.K G e w → eqV w v = deqv e d := fun d v G hd hp r => by
      have flat0 : ∀ (e : Dt), isDat e = true → (py e).depth = 0 → e = .non ∨ (∃ b, e = .bl b) ∨ (∃ i, e = .int i) ∨ ∃ z, e = .str z := fun e he hp => by
        cases e with
        | non => exact .inl rfl
        | bl b => exact .inr (.inl ⟨b, rfl⟩)
        | int i => exact .inr (.inr (.inl ⟨i, rfl⟩))
        | str z => exact .inr (.inr (.inr ⟨z, rfl⟩))
        | tup l => simp [py, PyData.depth] at hp
        | lst l => simp [py, PyData.depth] at hp
        | _ => simp [isDat] at he
      rcases flat0 d hd hp with rfl | ⟨b, rfl⟩ | ⟨i, rfl⟩ | ⟨z, rfl⟩
      all_goals first
        | obtain rfl := (show v = _ from r)
        | obtain rfl := r.1
      all_goals refine ⟨rfl, fun e w he hq r2 => ?_⟩
      all_goals rcases flat0 e he hq with rfl | ⟨b', rfl⟩ | ⟨i', rfl⟩ | ⟨z', rfl⟩
      all_goals first
        | obtain rfl := (show w = _ from r2)
        | obtain rfl := r2.1
      all_goals rfl
    have all : ∀ (l : List Dt) (xs : List V), l.all (fun z => isDat z && decide ((py z).depth = 0)) = true → Reps X.K (out H S Z) l xs → xs.all flatV = true ∧ inV x xs = memD dx l := fun l => by
      induction l with
      | nil => intro xs _ r; rw [show xs = [] from r]; exact ⟨rfl, rfl⟩
      | cons d l ih =>
        intro xs hh r
        obtain ⟨v', r', rfl, r1, r2⟩ := r
        rw [List.all_cons, Bool.and_eq_true, Bool.and_eq_true, decide_eq_true_iff] at hh
        obtain ⟨i1, i2⟩ := ih r' hh.2 r2
        obtain ⟨f1, f2⟩ := flat1 d v' _ hh.1.1 hh.1.2 r1
        obtain ⟨f3, f4⟩ := flat1 dx x _ h1 h2 rx
        refine ⟨by rw [List.all_cons, f1, i1]; rfl, ?_⟩
        show ((v' :: r').any fun y => eqV y x) = (d :: l).any fun z => deqv z dx
        rw [List.any_cons, List.any_cons, f4 d v' hh.1.1 hh.1.2 r1]
        congr 1
    obtain ⟨a1, a2⟩ := all l xs h3 ra
    refine o3 pins s σ H _ _ v u Q I rv ru ⟨a, xs, rfl, .inr (SqT.out ha), (flat1 dx x _ h1 h2 rx).1, a1, ?_⟩
    rw [a2]
    exact k.here g h rfl
  | _ => exact lists h
theorem od_in (hK : X.K = K) (hu : X.A.units + 65 < cLine) : OpR X (compareOp .In) (rD K (dIn false)) := od_inG false hK (op_inD hu) op_in_str op_in_seq
theorem od_notin (hK : X.K = K) (hu : X.A.units + 65 < cLine) : OpR X (compareOp .NotIn) (rD K (dIn true)) := od_inG true hK (op_notInD hu) op_notin_str op_notIn_seq
end
end Dn

namespace Dn
open PySem PySem.Spec PyProof.Rows L2 Pr LamX
theorem hW_of {A : Around} {k : Nat} (hr : Room k A) : A.units + 65 < cLine := by
  have := hr.un
  omega
/-! ## a cell stands still from here on -/
@[reducible] def frzOf (x : Dt) (S : Store) (k : Dt → Store → Prop) : Prop := match x with
  | .ref a => ∃ c, S a = some c ∧ (match c with
    | .lst l => k (.lst l) (sdel S a)
    | .dic l => k (.dic l) (sdel S a)
    | .ins C nm l => k (.obj C nm l) (sdel S a)
    | _ => False)
  | x => k x S
@[reducible] def dFrz (a : DTE) : DTE := fun δ S q => a δ S fun x S1 => frzOf x S1 q
theorem de_frz {X : Cx} {K : PySem.W.Frag} {E : XK} {e : DX} {ex : Expr} {da : DTE} (h : PE X ex (tD K E e da)) : PE X ex (tD K E e (dFrz da)) := PE.imp h fun σ H Q h => by
  obtain ⟨δ, S, Z, q, t, h, k⟩ := h
  refine ⟨δ, S, Z, _, t, h, fun v x H1 S1 g1 x1 r1 h1 => ?_⟩
  cases x with
  | ref a =>
    obtain ⟨c, h2, h3⟩ := h1
    obtain ⟨o, h4, h5⟩ := g1.c a _ h2
    have od := out_del g1 h2
    have ex := ext_del (H := H1) (S := S1) (Z := Z) (a := a)
    obtain rfl := (show v = _ from r1)
    cases c with
    | lst l => obtain ⟨vs, rfl, h6⟩ := h5; exact k _ (.lst l) _ _ g1.del (x1.trans ex) ⟨a, vs, rfl, by rw [od, h4], Reps.ext ex _ _ h6⟩ h3
    | dic l => obtain ⟨vs, rfl, h6⟩ := h5; exact k _ (.dic l) _ _ g1.del (x1.trans ex) ⟨a, vs, rfl, .inl (by rw [od, h4]), Repk.ext ex _ _ h6⟩ h3
    | ins C nm l => obtain ⟨dx, vs, rfl, h6, h7⟩ := h5; exact k _ (.obj C nm l) _ _ g1.del (x1.trans ex) ⟨a, dx, vs, rfl, by rw [od, h4], Reps.ext ex _ _ h6, h7⟩ h3
    | _ => exact h3.elim
  | _ => exact k _ _ _ _ g1 x1 r1 h1
/-! ## raise -/
section
variable {P : Program} {w : World} {K : PySem.W.Frag} {mg : Str → Option Value} {base : Heap} {N : List Str} {qual : Str} {scope : Scope} {f : Addr} {cd : Value} {A : Around} {outer : List Env} {s : Shared} {H : Hp} {E : XK} {e : DX} {ex : Expr} {pos : Pos} {C : Addr}
theorem dr_raise {B newId initId bmB} {x m : Str} {j : Nat} {p p2 pos2 : Pos} (F : ExcBaseFacts B newId initId bmB) (q : PySem.W.excIn K C bmB newId = true) (gC : mg x = some (.ref C)) (kC : PySem.W.keepIn K (.ref C) = true)
    (r : Raises (cxOf (L2.CX P w) P w K mg base N qual scope f cd A outer s H E) (.ref C)) (hg : Gl (cxOf (L2.CX P w) P w K mg base N qual scope f cd A outer s H E) x) (hdb : (x == ("__debug__" : Str)) = false := by decide) :
    PS (cxOf (L2.CX P w) P w K mg base N qual scope f cd A outer s H E) (.Raise (some (.Call (.Name x p) [.Constant (.str m) j p2] [] pos2)) none pos) (tDS K E e (dRaise e C)) :=
  ds_raise (W := fun cls d _ H => E cls d H) (B := "") (t := fun _ H Q => Q (.ref C) none H) rfl tkX (fun _ _ _ _ h => h) (pmk_own F q gC kC r hg hdb)
end
/-! ## dicts that change -/
section
variable {X : Cx} {K : PySem.W.Frag} {E : XK} {e : DX} {pos pos' apos cpos tpos p : Pos} {a b c ex : Expr} {da db dc : DTE}
@[reducible] def dDel (a b : DTE) : DTS := fun D δ S => a δ S fun x S1 => b δ S1 fun y S2 => match x with
  | .ref p => keyOf y fun k => ∃ l, S2 p = some (.dic l) ∧ (kGet l k).isSome = true ∧ D.nx δ (sput S2 p (.dic (kDel l k)))
  | _ => False
theorem ds_ddel (ha : PE X a (tD K E e da)) (hb : PE X b (tD K E e db)) : PS X (.Delete [.Subscript a b tpos] pos) (tDS K E e (dDel da db)) := PS.imp (ps_ddel ha hb) fun D σ H h => by
  obtain ⟨δ, S, Z, DD, t, h, k⟩ := h
  refine ⟨δ, S, Z, _, t, h, fun v x H1 S1 g1 x1 r1 h1 => ⟨δ, S1, Z, _, t.to g1 x1, h1, fun w y H2 S2 g2 x2 r2 h2 => ?_⟩⟩
  cases x with
  | ref p =>
    obtain ⟨key, rfl, ko, l, h3, h4, h5⟩ := keyOf_rep r2 h2
    obtain ⟨o, h6, vs, rfl, h7⟩ := g2.c p _ h3
    have cr : CRep K (out H2 S2 Z) (.dic (kDel l key)) (.dK (dropK vs key)) := ⟨_, rfl, Repk.kr.mpr (KR.del (Repk.kr.mp h7))⟩
    refine ⟨p, vs, key, r1, h6, rfl, ?_, k.nx _ _ _ _ (g2.mut h3 cr) (by rw [out_mut h3]; exact x1.trans x2) (by rw [out_mut h3]; exact t.sl.ext (x1.trans x2)) h5⟩
    rcases KR.get (k := key) (Repk.kr.mp h7) with ⟨e1, e2⟩ | ⟨d, u, e1, e2, _⟩
    · rw [e1] at h4; cases h4
    · rw [e2]; rfl
  | _ => exact h2.elim
@[reducible] def dDpop2 (a b c : DTE) : DTE := fun δ S q => a δ S fun x S1 => match x with
  | .ref p => isKeyed (.ref p) S1 (b δ S1 fun y S2 => c δ S2 fun z S3 => keyOf y fun k => ∃ l, S3 p = some (.dic l) ∧ q ((kGet l k).getD z) (sput S3 p (.dic (kDel l k))))
  | _ => False
theorem kDel_none {κ : Type} [DecidableEq κ] {l : List (κ × Dt)} {k : κ} (h : kGet l k = none) : kDel l k = l := by
  unfold kGet at h
  rw [Option.map_eq_none_iff, List.find?_eq_none] at h
  unfold kDel
  rw [List.filter_eq_self]
  intro p hp
  have := h p hp
  simpa using this
theorem sput_id {S : Store} {a : Addr} {c : Cell} (h : S a = some c) : sput S a c = S := by
  funext b
  unfold sput
  split
  · rename_i e; rw [e, h]
  · rfl
theorem de_dpop2 (ha : PE X a (tD K E e da)) (hb : PE X b (tD K E e db)) (hc : PE X c (tD K E e dc)) (m : M2 X a "pop" apos b c cpos) : PE X (.Call (.Attribute a "pop" apos) [b, c] [] cpos) (tD K E e (dDpop2 da db dc)) := PE.imp (pe_dpop2 ha hb hc m) fun σ H Q h => by
  obtain ⟨δ, S, Z, q, t, h, k⟩ := h
  refine ⟨δ, S, Z, _, t, h, fun v x H1 S1 g1 x1 r1 h1 => ?_⟩
  cases x with
  | ref p =>
    obtain ⟨a', e1, hd, h1⟩ := keyed_of g1 r1 h1
    obtain rfl := (show v = _ from r1)
    cases e1
    refine ⟨_, rfl, hd, δ, S1, Z, _, t.to g1 x1, h1, fun w y H2 S2 g2 x2 r2 h2 => ⟨δ, S2, Z, _, t.to g2 (x1.trans x2), h2, fun u z H3 S3 g3 x3 r3 h3 => ?_⟩⟩
    obtain ⟨key, rfl, ko, l, h4, h5⟩ := keyOf_rep (Rep.ext x3 _ _ r2) h3
    obtain ⟨o, h6, vs, rfl, h7⟩ := g3.c p _ h4
    have xx := x1.trans (x2.trans x3)
    refine ⟨vs, key, h6, rfl, fun vv hv => ?_, fun hv => ?_⟩
    · have cr : CRep K (out H3 S3 Z) (.dic (kDel l key)) (.dK (dropK vs key)) := ⟨_, rfl, Repk.kr.mpr (KR.del (Repk.kr.mp h7))⟩
      rcases KR.get (k := key) (Repk.kr.mp h7) with ⟨e1, e2⟩ | ⟨d, u', e1, e2, e3⟩
      · rw [e2] at hv; cases hv
      · rw [e2] at hv
        cases hv
        rw [e1] at h5
        exact k _ d _ _ (g3.mut h4 cr) (by rw [out_mut h4]; exact xx) (by rw [out_mut h4]; exact e3) h5
    · rcases KR.get (k := key) (Repk.kr.mp h7) with ⟨e1, e2⟩ | ⟨d, u', e1, e2, e3⟩
      · rw [e1, kDel_none e1, sput_id h4] at h5
        exact k _ z _ _ g3 xx r3 h5
      · rw [e2] at hv; cases hv
  | _ => exact h1.elim
/-- equal dicts of plain things -/
def flatDt : Dt → Bool
  | .non | .bl _ | .int _ | .str _ => true
  | _ => false
theorem flat_same {G : Hp} {d : Dt} {v w : V} (h : flatDt d = true) (r1 : Rep K G d v) (r2 : Rep K G d w) : v = w ∧ flatB v = true := by
  cases d with
  | non => rw [show v = _ from r1, show w = _ from r2]; exact ⟨rfl, rfl⟩
  | bl b => rw [show v = _ from r1, show w = _ from r2]; exact ⟨rfl, rfl⟩
  | int i => rw [show v = _ from r1, show w = _ from r2]; exact ⟨rfl, rfl⟩
  | str z => rw [r1.1, r2.1]; exact ⟨rfl, rfl⟩
  | _ => cases h
@[reducible] def rEqDic (b : Bool) : D2 := fun x y S q => match x, y with
  | .ref a, .ref c => ∃ l, S a = some (.dic l) ∧ ∃ m, S c = some (.dic m) ∧ (l.length = m.length ∧ ∀ p ∈ l, kGet m p.1 = some p.2 ∧ flatDt p.2 = true) ∧ q (.bl b) S
  | _, _ => False
theorem eqDic_of {Z H : Hp} {S : Store} {a c : Addr} {l m : List (Key × Dt)} (g : Good K Z H S) (h1 : S a = some (.dic l)) (h2 : S c = some (.dic m)) (hl : l.length = m.length) (hp : ∀ p ∈ l, kGet m p.1 = some p.2 ∧ flatDt p.2 = true) :
    ∃ ks ls, H a = some (.dK ks) ∧ H c = some (.dK ls) ∧ ks.length = ls.length ∧ ∀ p ∈ ks, valV ls p.1 = some p.2 ∧ flatB p.2 = true := by
  obtain ⟨o, h3, ks, rfl, h4⟩ := g.c a _ h1
  obtain ⟨o, h5, ls, rfl, h6⟩ := g.c c _ h2
  refine ⟨ks, ls, h3, h5, by rw [← h4.len, ← h6.len]; exact hl, fun p hpm => ?_⟩
  obtain ⟨i, hi⟩ := List.getElem?_of_mem hpm
  obtain ⟨q, e1, e2, _, e3⟩ := Paired.get' (Repk.kr.mp h4) hi
  obtain ⟨f1, f2⟩ := hp q (List.mem_of_getElem? e1)
  rcases KR.get (k := q.1) (Repk.kr.mp h6) with ⟨z, _⟩ | ⟨d, u, z1, z2, z3⟩
  · rw [f1] at z; cases z
  · rw [f1] at z1
    cases z1
    obtain ⟨s1, s2⟩ := flat_same f2 e3 z3
    rw [← e2, z2, s1]
    exact ⟨rfl, by rw [← s1]; exact s2⟩
theorem od_eqDic (hu : X.A.units < cLine) : OpR X (compareOp .Eq) (rD K (rEqDic true)) := fun pins s σ H x y v u Q I rv ru ⟨dx, dy, S, Z, q, g, rx, ry, h, k⟩ => by
  cases dx with
  | ref a =>
    cases dy with
    | ref c =>
      obtain ⟨l, h1, m, h2, ⟨h3, h4⟩, h5⟩ := h
      obtain ⟨ks, ls, e1, e2, e3, e4⟩ := eqDic_of g h1 h2 h3 h4
      exact op_eq_dictA hu pins s σ H x y v u Q I rv ru ⟨a, c, ks, ls, rx, ry, e1, e2, e3, e4, k.here g h5 rfl⟩
    | _ => exact h.elim
  | _ => cases dy <;> exact h.elim
theorem od_neDic (hu : X.A.units < cLine) : OpR X (compareOp .NotEq) (rD K (rEqDic false)) := fun pins s σ H x y v u Q I rv ru ⟨dx, dy, S, Z, q, g, rx, ry, h, k⟩ => by
  cases dx with
  | ref a =>
    cases dy with
    | ref c =>
      obtain ⟨l, h1, m, h2, ⟨h3, h4⟩, h5⟩ := h
      obtain ⟨ks, ls, e1, e2, e3, e4⟩ := eqDic_of g h1 h2 h3 h4
      exact op_ne_dictA hu pins s σ H x y v u Q I rv ru ⟨a, c, ks, ls, rx, ry, e1, e2, e3, e4, k.here g h5 rfl⟩
    | _ => exact h.elim
  | _ => cases dy <;> exact h.elim
/-! ## in place -/
@[reducible] def rIAdd : D2 := fun x y S q => match x, y with
  | .int i, .int j => q (.int (i + j)) S
  | .str a, .str b => a.length + b.length ≤ sizeLine ∧ q (.str (a ++ b)) S
  | _, _ => False
theorem ip_addD : OpR X (inplaceOp .Add) (rD K rIAdd) := fun pins s σ H x y v u Q I rv ru ⟨dx, dy, S, Z, q, g, rx, ry, h, k⟩ => by
  cases dx with
  | int i =>
    cases dy with
    | int j => exact iop_add pins s σ H x y v u Q I rv ru ⟨i, j, rx, ry, k.here g h rfl⟩
    | _ => exact h.elim
  | str a =>
    cases dy with
    | str b => exact iop_add_str pins s σ H x y v u Q I rv ru ⟨a, b, rx.1, ry.1, h.1, k.here g h.2 ⟨rfl, rx.2.app ry.2 h.1⟩⟩
    | _ => exact h.elim
  | _ => cases dy <;> exact h.elim
theorem in_addD : InOp X .Add (rD K rIAdd) := fun pins s σ H x y v u Q I rv ru h => ip_addD pins s σ H x y v u Q I rv ru h
theorem ip_subD : OpR X (inplaceOp .Sub) (rD K rSub) := fun pins s σ H x y v u Q I rv ru ⟨dx, dy, S, Z, q, g, rx, ry, h, k⟩ => by
  cases dx with
  | int i =>
    cases dy with
    | int j => exact ip_sub pins s σ H x y v u Q I rv ru ⟨i, j, rx, ry, k.here g h rfl⟩
    | _ => exact h.elim
  | _ => cases dy <;> exact h.elim
theorem in_subD : InOp X .Sub (rD K rSub) := fun pins s σ H x y v u Q I rv ru h => ip_subD pins s σ H x y v u Q I rv ru h
end
/-! ## list(d.items()) -/
section
variable {X : Cx} {K : PySem.W.Frag} {E : XK} {e : DX} {p pos apos cpos : Pos} {a : Expr} {da : DTE}
@[reducible] def dItems (a : DTE) : DTE := fun δ S q => a δ S fun x S1 => match x with
  | .ref p => ∃ l, S1 p = some (.dic l) ∧ q (.lst (l.map fun p => .tup [keyD p.1, p.2])) S1
  | _ => False
/-- many new things that stand still -/
theorem Good.news {Z H H' : Hp} {S : Store} (g : Good K Z H S) (h : ∀ b o, H b = some o → H' b = some o) : Good K Z H' S ∧ Ext (out H S Z) (out H' S Z) := by
  have e : Ext (out H S Z) (out H' S Z) := Ext.of fun b o hb => by
    obtain ⟨h1, h2, h3⟩ := out_some hb
    rw [out_of h1 h2]
    exact h b o h3
  refine ⟨⟨fun b o hb => ⟨h b o (g.z b o hb).1, (g.z b o hb).2⟩, fun a c hc => ?_⟩, e⟩
  obtain ⟨o, h1, h2⟩ := g.c a c hc
  exact ⟨o, h a o h1, CRep.ext e _ _ h2⟩
theorem de_listItems (hc : X.calm = true) (ha : PE X a (tD K E e da)) (hg : Gl X "list") (hm : X.mg "list" = none) (hv : bootBuiltins "list" = some (.type "list")) (hbase : attributeBase a "items" X.env (eval a X.env) = eval a X.env := by rfl) (hline : (apos.endLine == cpos.line) = true := by rfl)
    (hs : starEach [.Call (.Attribute a "items" apos) [] [] cpos] X.env = (false, eval (.Call (.Attribute a "items" apos) [] [] cpos) X.env) :: starEach [] X.env := by rfl) :
    PE X (.Call (.Name "list" p) [.Call (.Attribute a "items" apos) [] [] cpos] [] pos) (tD K E e (dItems da)) := PE.imp (LiI.pe_listItems hc ha hg hm hv hbase hline hs) fun σ H Q h => by
  obtain ⟨δ, S, Z, q, t, h, k⟩ := h
  refine ⟨δ, S, Z, _, t, h, fun v x H1 S1 g1 x1 r1 h1 => ?_⟩
  cases x with
  | ref b =>
    obtain ⟨l, h2, h3⟩ := h1
    obtain ⟨o, h4, vs, rfl, h5⟩ := g1.c b _ h2
    refine ⟨b, vs, r1, h4, fun H' p ts hk np nt pt hp pr => ?_⟩
    obtain ⟨g2, e2⟩ := g1.news hk
    have nS : ∀ c, H1 c = none → S1 c = none ∧ Z c = none := fun c n => ⟨g1.nS n, g1.nZ n⟩
    refine k _ (.lst (l.map fun p => .tup [keyD p.1, p.2])) H' S1 g2 (x1.trans e2) ⟨p, ts.map V.ref, rfl, ?_, ?_⟩ h3
    · rw [out_of (nS p np).1 (nS p np).2, hp]
    · have kr := (Repk.kr.mp h5).ext e2
      clear h3 h2 h4 h5 hp
      clear r1
      induction kr generalizing ts with
      | nil => cases pr; exact rfl
      | @cons q1 q2 l' m' hq t' ih =>
        cases pr with
        | @cons t1 _ ts' _ ht pr' =>
          refine ⟨.ref t1, _, rfl, ⟨t1, [kV q2.1, q2.2], rfl, SqT.of ?_, kV q2.1, [q2.2], rfl, by rw [← hq.1]; exact key_rep hq.2.1, q2.2, [], rfl, hq.2.2, rfl⟩, ?_⟩
          · rw [out_of (nS t1 (nt t1 List.mem_cons_self)).1 (nS t1 (nt t1 List.mem_cons_self)).2, ht]
          · exact ih ts' (fun t ht => nt t (List.mem_cons_of_mem _ ht)) (fun z => pt (List.mem_cons_of_mem _ z)) pr'
  | _ => exact h1.elim
end
end Dn

/-! tools over stores and deep values -/
namespace Dn
open PySem PySem.Spec PyProof.Rows L2 Pr
/-! ## stores -/
/-- all cells but M are as they were -/
def Kps (M : List Addr) (S S' : Store) : Prop := ∀ b c, S b = some c → b ∉ M → S' b = some c
section
variable {M M' : List Addr} {S S1 S2 : Store} {p : Addr} {c d : Cell}
theorem ne_cell {a b : Addr} (h : S a = some c) (h' : S b = some d) (n : c ≠ d) : a ≠ b := fun e => by rw [e, h'] at h; exact n (Option.some.inj h).symm
theorem ne_free {a b : Addr} (h : S a = some c) (h' : S b = none) : a ≠ b := fun e => by rw [e, h'] at h; cases h
theorem ne_free' {a b : Addr} (h : S a = none) (h' : S b = some c) : a ≠ b := fun e => by rw [e, h'] at h; cases h
theorem Kps.refl : Kps M S S := fun _ _ h _ => h
theorem Kps.trans (a : Kps M S S1) (b : Kps M S1 S2) : Kps M S S2 := fun e u h n => b e u (a e u h n) n
theorem Kps.mono (a : Kps M S S1) (h : ∀ b, b ∈ M → b ∈ M' ∨ S b = none) : Kps M' S S1 := fun e u q n => a e u q fun m => by
  rcases h e m with z | z
  · exact n z
  · rw [z] at q; cases q
theorem Kps.sub (a : Kps M S S1) (h : ∀ b, b ∈ M → b ∈ M') : Kps M' S S1 := a.mono fun b hb => .inl (h b hb)
theorem Kps.new (a : Kps M S S1) (n : S1 p = none) : Kps M S (sput S1 p c) := fun e u h m => by
  have z := a e u h m
  rw [sput_ne (ne_free z n)]
  exact z
theorem Kps.own (a : Kps M S S1) (n : S p = none) : Kps M S (sput S1 p c) := fun e u h m => by
  rw [sput_ne (ne_free h n)]
  exact a e u h m
theorem Kps.mut (a : Kps M S S1) (m : p ∈ M) : Kps M S (sput S1 p c) := fun e u h n => by
  rw [sput_ne fun z => n (by rw [z]; exact m)]
  exact a e u h n
theorem Kps.del (a : Kps M S S1) (m : p ∈ M) : Kps M S (sdel S1 p) := fun e u h n => by
  rw [sdel_ne fun z => n (by rw [z]; exact m)]
  exact a e u h n
theorem Kps.delN (a : Kps M S S1) (n : S p = none) : Kps M S (sdel S1 p) := fun e u h m => by
  rw [sdel_ne (ne_free h n)]
  exact a e u h m
/-- what is in M is of another kind -/
theorem Kps.get (a : Kps M S S1) (h : S p = some c) (n : ∀ b ∈ M, S b ≠ some c) : S1 p = some c := a p c h fun m => n p m h
theorem Kps.free (a : Kps [] S S1) (n : S1 p = none) : S p = none := by
  cases e : S p with
  | none => rfl
  | some u => rw [a p u e (by simp)] at n; cases n
/-- no new tables of codes -/
def NoT (S S' : Store) : Prop := ∀ a q, S' a = some (.tbl q) → S a = some (.tbl q)
theorem NoT.put (h : NoT S S1) (nt : ∀ q, c ≠ .tbl q) : NoT S (sput S1 p c) := fun a q e => by
  by_cases ha : a = p
  · rw [ha, sput_same] at e
    exact absurd (Option.some.inj e) (nt q)
  · rw [sput_ne ha] at e
    exact h a q e
theorem NoT.del (h : NoT S S1) : NoT S (sdel S1 p) := fun a q e => by
  by_cases ha : a = p
  · rw [ha, sdel_same] at e
    cases e
  · rw [sdel_ne ha] at e
    exact h a q e
/-- a frame -/
structure Frm (M : List Addr) (S S' : Store) : Prop where
  k : Kps M S S'
  t : NoT S S'
theorem Frm.refl : Frm M S S := ⟨Kps.refl, fun _ _ h => h⟩
theorem Frm.trans (a : Frm M S S1) (b : Frm M S1 S2) : Frm M S S2 := ⟨a.k.trans b.k, fun x q h => a.t x q (b.t x q h)⟩
theorem Frm.mono (a : Frm M S S1) (h : ∀ b, b ∈ M → b ∈ M' ∨ S b = none) : Frm M' S S1 := ⟨a.k.mono h, a.t⟩
theorem Frm.new (a : Frm M S S1) (n : S1 p = none) (nt : ∀ q, c ≠ .tbl q := by intro q z; cases z) : Frm M S (sput S1 p c) := ⟨a.k.new n, a.t.put nt⟩
theorem Frm.own (a : Frm M S S1) (n : S p = none) (nt : ∀ q, c ≠ .tbl q := by intro q z; cases z) : Frm M S (sput S1 p c) := ⟨a.k.own n, a.t.put nt⟩
theorem Frm.mut (a : Frm M S S1) (m : p ∈ M) (nt : ∀ q, c ≠ .tbl q := by intro q z; cases z) : Frm M S (sput S1 p c) := ⟨a.k.mut m, a.t.put nt⟩
theorem Frm.del (a : Frm M S S1) (m : p ∈ M) : Frm M S (sdel S1 p) := ⟨a.k.del m, a.t.del⟩
theorem Frm.delN (a : Frm M S S1) (n : S p = none) : Frm M S (sdel S1 p) := ⟨a.k.delN n, a.t.del⟩
/-- new addresses -/
def NewA (O O' : List Addr) (S : Store) : Prop := ∀ b ∈ O', b ∈ O ∨ S b = none
theorem sput_free {a b : Addr} (h : sput S a c b = none) : b ≠ a ∧ S b = none := by
  have n : b ≠ a := fun e => by rw [e, sput_same] at h; cases h
  exact ⟨n, by rw [sput_ne n] at h; exact h⟩
end
/-! ## dicts with texts as keys -/
section
variable {α : Type} {g : α → Dt}
def encD (g : α → Dt) (L : List (Str × α)) : List (Key × Dt) := L.map fun e => (Sum.inr e.1, g e.2)
theorem encD_len (L : List (Str × α)) : (encD g L).length = L.length := List.length_map ..
theorem encD_get (k : Str) : ∀ L : List (Str × α), kGet (encD g L) (Sum.inr k) = (aGet L k).map g
  | [] => rfl
  | e :: r => by
    have ih := encD_get k r
    unfold kGet aGet encD at *
    rw [List.map_cons, List.find?_cons, List.find?_cons, key_inr]
    by_cases h : e.1 = k
    · rw [decide_eq_true h]; rfl
    · rw [decide_eq_false h]; exact ih
theorem encD_put (k : Str) (v : α) (L : List (Str × α)) : kPut (encD g L) (Sum.inr k) (g v) = encD g (aPut L k v) := by
  have e1 : ((encD g L).any fun p => decide (p.1 = (Sum.inr k : Key))) = L.any fun e => decide (e.1 = k) := by
    unfold encD
    rw [List.any_map]
    congr 1
    funext e
    exact key_inr e.1 k
  unfold kPut aPut
  rw [e1]
  split
  · unfold encD
    rw [List.map_map, List.map_map]
    refine List.map_congr_left fun e _ => ?_
    show (if (Sum.inr e.1 : Key) = Sum.inr k then ((Sum.inr e.1 : Key), g v) else (Sum.inr e.1, g e.2)) = _
    by_cases h : e.1 = k
    · rw [if_pos (by rw [h])]; simp [h]
    · rw [if_neg fun z => h (Sum.inr.inj z)]; simp [h]
  · unfold encD
    rw [List.map_append]
    rfl
theorem encD_del (k : Str) (L : List (Str × α)) : kDel (encD g L) (Sum.inr k) = encD g (aDrop L k) := by
  unfold kDel aDrop encD
  rw [List.filter_map]
  congr 1
  refine List.filter_congr fun e _ => ?_
  show decide ((Sum.inr e.1 : Key) ≠ Sum.inr k) = decide (e.1 ≠ k)
  rw [decide_not, decide_not, key_inr]
theorem encD_keys (L : List (Str × α)) : (encD g L).map (·.1) = (L.map (·.1)).map Sum.inr := by
  unfold encD
  rw [List.map_map, List.map_map]
  rfl
/-- dict([(k, v), ..]) of keys that differ -/
theorem merge_nodup {κ : Type} [DecidableEq κ] : ∀ (m l : List (κ × Dt)), (m.map (·.1)).Nodup → (∀ p ∈ m, ∀ q ∈ l, p.1 ≠ q.1) → kMerge l m = l ++ m
  | [], l, _, _ => by simp [kMerge]
  | p :: m, l, nd, dis => by
    have nd' := List.nodup_cons.mp nd
    have e : kPut l p.1 p.2 = l ++ [p] := by
      unfold kPut
      rw [if_neg (fun h => by
        obtain ⟨q, hq, e⟩ := List.any_eq_true.mp h
        exact dis p List.mem_cons_self q hq (of_decide_eq_true e).symm)]
    show kMerge (kPut l p.1 p.2) m = _
    rw [e, merge_nodup m (l ++ [p]) nd'.2 (fun a ha q hq => by
      rcases List.mem_append.mp hq with hq | hq
      · exact dis a (List.mem_cons_of_mem _ ha) q hq
      · rw [List.mem_singleton.mp hq]
        exact fun z => nd'.1 (List.mem_map.mpr ⟨a, ha, z⟩)), List.append_assoc]
    rfl
theorem encD_merge {L : List (Str × α)} (nd : (L.map (·.1)).Nodup) : kMerge [] (encD g L) = encD g L := by
  rw [merge_nodup _ _ ?_ (fun _ _ q hq => by cases hq)]
  · rfl
  · rw [encD_keys]
    exact List.pairwise_map.mpr (nd.imp fun h e => h (Sum.inr.inj e))
end
/-! ## comparing typed things -/
class Enc (α : Type) [DecidableEq α] where
  enc : α → Dt
  dat : ∀ a, isDat (enc a) = true
  eqv : ∀ a b, deqv (enc a) (enc b) = decide (a = b)
  dep : Nat
  dep_le : ∀ a, (py (enc a)).depth ≤ dep
/-- never None -/
class EncN (α : Type) [DecidableEq α] extends Enc α where
  nn : ∀ a, deqv .non (enc a) = false ∧ deqv (enc a) .non = false
theorem beq_dec {α : Type} [DecidableEq α] [BEq α] [LawfulBEq α] (a b : α) : (a == b) = decide (a = b) := by
  rw [Bool.eq_iff_iff, beq_iff_eq, decide_eq_true_eq]
instance : EncN Int := { enc := .int, dat := fun _ => rfl, eqv := fun a b => beq_dec a b, dep := 0, dep_le := fun _ => Nat.le_refl _, nn := fun _ => ⟨rfl, rfl⟩ }
instance : EncN Bool := { enc := .bl, dat := fun _ => rfl, eqv := fun a b => beq_dec a b, dep := 0, dep_le := fun _ => Nat.le_refl _, nn := fun _ => ⟨rfl, rfl⟩ }
instance : EncN Str := { enc := .str, dat := fun _ => rfl, eqv := fun a b => beq_dec a b, dep := 0, dep_le := fun _ => Nat.le_refl _, nn := fun _ => ⟨rfl, rfl⟩ }
section
variable {α β γ : Type} [DecidableEq α] [DecidableEq β] [DecidableEq γ]
@[reducible] def encO [Enc α] : Option α → Dt
  | none => .non
  | some a => Enc.enc a
theorem encO_dat [Enc α] (a : Option α) : isDat (encO a) = true := by
  cases a
  · exact rfl
  · exact Enc.dat _
theorem encO_eqv [EncN α] (a b : Option α) : deqv (encO a) (encO b) = decide (a = b) := by
  cases a with
  | none =>
    cases b with
    | none => rfl
    | some b => exact (EncN.nn b).1
  | some a =>
    cases b with
    | none => exact (EncN.nn a).2
    | some b =>
      rw [show deqv (encO (some a)) (encO (some b)) = _ from Enc.eqv a b]
      simp
theorem encO_dep [Enc α] (a : Option α) : (py (encO a)).depth ≤ Enc.dep α := by
  cases a
  · exact Nat.zero_le _
  · exact Enc.dep_le _
instance [EncN α] : Enc (Option α) := { enc := encO, dat := encO_dat, eqv := encO_eqv, dep := Enc.dep α, dep_le := encO_dep }
def encP [Enc α] [Enc β] (p : α × β) : Dt := .tup [Enc.enc p.1, Enc.enc p.2]
theorem encP_dat [Enc α] [Enc β] (p : α × β) : isDat (encP p) = true := by
  show (isDat (Enc.enc p.1) && (isDat (Enc.enc p.2) && true)) = true
  rw [Enc.dat, Enc.dat]
  rfl
theorem encP_eqv [Enc α] [Enc β] (a b : α × β) : deqv (encP a) (encP b) = decide (a = b) := by
  show (deqv (Enc.enc a.1) (Enc.enc b.1) && (deqv (Enc.enc a.2) (Enc.enc b.2) && true)) = _
  rw [Enc.eqv, Enc.eqv, Bool.and_true, Bool.eq_iff_iff]
  simp [Prod.ext_iff]
theorem encP_dep [Enc α] [Enc β] (p : α × β) : (py (encP p)).depth ≤ max (Enc.dep α) (Enc.dep β) + 1 := by
  show max (py (Enc.enc p.1)).depth (max (py (Enc.enc p.2)).depth 0) + 1 ≤ _
  have h1 := Enc.dep_le p.1
  have h2 := Enc.dep_le p.2
  omega
instance [Enc α] [Enc β] : EncN (α × β) := { enc := encP, dat := encP_dat, eqv := encP_eqv, dep := max (Enc.dep α) (Enc.dep β) + 1, dep_le := encP_dep, nn := fun _ => ⟨rfl, rfl⟩ }
/-- rows of three, four, .. : the parts one by one -/
theorem eqv_tup {l m : List Dt} : deqv (.tup l) (.tup m) = PyData.eqvAll (pys l) (pys m) := rfl
theorem eqvAll_cons {a b : Dt} {l m : List Dt} : PyData.eqvAll (pys (a :: l)) (pys (b :: m)) = (deqv a b && PyData.eqvAll (pys l) (pys m)) := rfl
theorem eqvAll_nil : PyData.eqvAll (pys []) (pys []) = true := rfl
theorem tup_dep {l : List Dt} {n : Nat} (h : PyData.depthAll (pys l) ≤ n) : (py (.tup l)).depth ≤ n + 1 := Nat.succ_le_succ h
theorem pys_dep {l : List Dt} {n : Nat} (h : ∀ d ∈ l, (py d).depth ≤ n) : PyData.depthAll (pys l) ≤ n := by
  induction l with
  | nil => exact Nat.zero_le _
  | cons d l ih =>
    show max (py d).depth (PyData.depthAll (pys l)) ≤ n
    exact Nat.max_le.mpr ⟨h d List.mem_cons_self, ih fun x hx => h x (List.mem_cons_of_mem _ hx)⟩
theorem areDat_of {l : List Dt} (h : ∀ d ∈ l, isDat d = true) : areDat l = true := by rw [areDat_all]; exact List.all_eq_true.mpr h
theorem eqvAll_map {f : α → Dt} (h : ∀ a b, deqv (f a) (f b) = decide (a = b)) : ∀ l m : List α, PyData.eqvAll (pys (l.map f)) (pys (m.map f)) = decide (l = m)
  | [], [] => rfl
  | [], _ :: _ => rfl
  | _ :: _, [] => rfl
  | a :: l, b :: m => by
    show (deqv (f a) (f b) && PyData.eqvAll (pys (l.map f)) (pys (m.map f))) = _
    rw [h, eqvAll_map h l m, Bool.eq_iff_iff]
    simp
end
/-- things of one kind, by a function that tells them apart -/
structure Tells {α : Type} [DecidableEq α] (f : α → Dt) (n : Nat) : Prop where
  dat : ∀ a, isDat (f a) = true
  eqv : ∀ a b, deqv (f a) (f b) = decide (a = b)
  dep : ∀ a, (py (f a)).depth ≤ n
section
variable {α : Type} [DecidableEq α] {f : α → Dt} {n : Nat} {S : Store} {q : DK}
theorem tells_enc [Enc α] : Tells (Enc.enc (α := α)) (Enc.dep α) := ⟨Enc.dat, Enc.eqv, Enc.dep_le⟩
theorem Tells.lst (t : Tells f n) : Tells (fun l : List α => Dt.lst (l.map f)) (n + 1) := ⟨fun l => areDat_of fun d hd => by
  obtain ⟨a, _, rfl⟩ := List.mem_map.mp hd
  exact t.dat a, fun l m => eqvAll_map t.eqv l m, fun l => Nat.succ_le_succ (pys_dep fun d hd => by
  obtain ⟨a, _, rfl⟩ := List.mem_map.mp hd
  exact t.dep a)⟩
theorem Tells.tup (t : Tells f n) : Tells (fun l : List α => Dt.tup (l.map f)) (n + 1) := ⟨fun l => areDat_of fun d hd => by
  obtain ⟨a, _, rfl⟩ := List.mem_map.mp hd
  exact t.dat a, fun l m => eqvAll_map t.eqv l m, fun l => Nat.succ_le_succ (pys_dep fun d hd => by
  obtain ⟨a, _, rfl⟩ := List.mem_map.mp hd
  exact t.dep a)⟩
theorem Tells.eq (t : Tells f n) (hn : n ≤ 64) {a b : α} (h : q (.bl (decide (a = b))) S) : dEq (f a) (f b) S q := ⟨⟨t.dat a, t.dat b, Nat.le_trans (t.dep a) hn, Nat.le_trans (t.dep b) hn⟩, by rw [t.eqv]; exact h⟩
theorem Tells.ne (t : Tells f n) (hn : n ≤ 64) {a b : α} (h : q (.bl (!decide (a = b))) S) : dNe (f a) (f b) S q := ⟨⟨t.dat a, t.dat b, Nat.le_trans (t.dep a) hn, Nat.le_trans (t.dep b) hn⟩, by rw [t.eqv]; exact h⟩
theorem Tells.mem (t : Tells f n) (a : α) (l : List α) : memD (f a) (l.map f) = decide (a ∈ l) := by
  unfold memD
  rw [List.any_map, Bool.eq_iff_iff, List.any_eq_true, decide_eq_true_iff]
  constructor
  · rintro ⟨x, hx, h⟩
    have h : deqv (f x) (f a) = true := h
    rw [t.eqv] at h
    rw [← of_decide_eq_true h]
    exact hx
  · exact fun h => ⟨a, h, by show deqv (f a) (f a) = true; rw [t.eqv]; simp⟩
end
section
variable {S : Store} {q : DK}
theorem eq_int {a b : Int} (h : q (.bl (decide (a = b))) S) : dEq (.int a) (.int b) S q := (tells_enc (α := Int)).eq (Nat.zero_le _) h
theorem eq_str {a b : Str} (h : q (.bl (decide (a = b))) S) : dEq (.str a) (.str b) S q := (tells_enc (α := Str)).eq (Nat.zero_le _) h
theorem eq_bl {a b : Bool} (h : q (.bl (decide (a = b))) S) : dEq (.bl a) (.bl b) S q := (tells_enc (α := Bool)).eq (Nat.zero_le _) h
theorem ne_int {a b : Int} (h : q (.bl (!decide (a = b))) S) : dNe (.int a) (.int b) S q := (tells_enc (α := Int)).ne (Nat.zero_le _) h
theorem ne_str {a b : Str} (h : q (.bl (!decide (a = b))) S) : dNe (.str a) (.str b) S q := (tells_enc (α := Str)).ne (Nat.zero_le _) h
theorem ne_bl {a b : Bool} (h : q (.bl (!decide (a = b))) S) : dNe (.bl a) (.bl b) S q := (tells_enc (α := Bool)).ne (Nat.zero_le _) h
end
end Dn

namespace Dn
open PySem PySem.Spec PyProof.Rows L2 Pr
section
variable {X : Cx} {K : PySem.W.Frag} {E : XK} {e : DX} {st : Stmt}
theorem ds_never : PS X st (tDS K E e (fun _ _ _ => False)) := PS.imp ps_never fun D σ H h => by
  obtain ⟨D', S, Z, δ, t, h, k⟩ := h
  exact h.elim
end
theorem szD {n : Nat} (h : n ≤ 10000) : n < sizeLine := Nat.lt_of_le_of_lt h (Nat.le_of_ble_eq_true rfl)
/-! tests that are comparisons -/
@[reducible] def dTst (a : DTE) : DTT := fun δ S q => a δ S fun x S1 => ∃ k, x = .bl k ∧ q k S1
section
variable {X : Cx} {K : PySem.W.Frag} {E : XK} {e : DX} {pos : Pos} {a b c : Expr} {da db dc : DTE}
theorem tD_tst {σ : L2.St} {H : Hp} {Q : Bool → Hp → Prop} (h : tDT K E e (dTst da) σ H Q) : tTest (tD K E e da) σ H Q := by
  obtain ⟨δ, S, Z, q, t, h, k⟩ := h
  refine ⟨δ, S, Z, _, t, h, fun v x H1 S1 g1 x1 r1 h1 => ?_⟩
  obtain ⟨b, rfl, h1⟩ := h1
  exact ⟨b, r1, k b H1 S1 g1 x1 h1⟩
theorem dt_cmp {op : CmpOp} {dr : D2} (ho : OpR X (compareOp op) (rD K dr)) (ha : PE X a (tD K E e da)) (hb : PE X b (tD K E e db)) (hm : behindInMarks op b = false := by rfl) : PT X (.Compare a [op] [b] pos) (tDT K E e (dTst (dOp dr da db))) :=
  PT.imp (pt_cmpR ho ha hb hm) fun σ H Q h => by
    exact tT_op (tD_tst h)
where
  tT_op {dr : D2} {σ : L2.St} {H : Hp} {Q : Bool → Hp → Prop} (h : tTest (tD K E e (dOp dr da db)) σ H Q) : tTest (tOp (rD K dr) (tD K E e da) (tD K E e db)) σ H Q := tD_op h
theorem dt_din (hu : X.A.units + 1 < cLine) (hb : PE X b (tD K E e db)) (ha : PE X a (tD K E e da)) (hm : behindInMarks .In a = false := by rfl) : PT X (.Compare b [.In] [a] pos) (tDT K E e (dTst (dDin db da))) := PT.imp (pt_cmp (pc_din hu hb ha) hm) fun σ H Q h => by
  obtain ⟨δ, S, Z, q, t, h, k⟩ := (tD_tst h : tD K E e (dDin db da) σ H _)
  refine ⟨δ, S, Z, _, t, h, fun v x H1 S1 g1 x1 r1 h1 => ⟨δ, S1, Z, _, t.to g1 x1, h1, fun w y H2 S2 g2 x2 r2 h2 => ?_⟩⟩
  obtain ⟨a, o, rfl, h3, h4⟩ := getD_of g2 r2 (Rep.ext x2 _ _ r1) h2
  rcases h4 with ⟨rfl, h4⟩ | ⟨x', u, rfl, h6, h7⟩
  · exact ⟨a, _, rfl, h4, (k.ext (x1.trans x2)).here g2 h3 rfl⟩
  · exact ⟨a, _, rfl, h6, (k.ext (x1.trans x2)).here g2 h3 rfl⟩
theorem dt_dnotin (hu : X.A.units + 1 < cLine) (hb : PE X b (tD K E e db)) (ha : PE X a (tD K E e da)) (hm : behindInMarks .NotIn a = false := by rfl) : PT X (.Compare b [.NotIn] [a] pos) (tDT K E e (dTst (dDnotin db da))) := PT.imp (pt_cmp (pc_dnotin hu hb ha) hm) fun σ H Q h => by
  obtain ⟨δ, S, Z, q, t, h, k⟩ := (tD_tst h : tD K E e (dDnotin db da) σ H _)
  refine ⟨δ, S, Z, _, t, h, fun v x H1 S1 g1 x1 r1 h1 => ⟨δ, S1, Z, _, t.to g1 x1, h1, fun w y H2 S2 g2 x2 r2 h2 => ?_⟩⟩
  obtain ⟨a, o, rfl, h3, h4⟩ := getD_of g2 r2 (Rep.ext x2 _ _ r1) h2
  rcases h4 with ⟨rfl, h4⟩ | ⟨x', u, rfl, h6, h7⟩
  · exact ⟨a, _, rfl, h4, (k.ext (x1.trans x2)).here g2 h3 rfl⟩
  · exact ⟨a, _, rfl, h6, (k.ext (x1.trans x2)).here g2 h3 rfl⟩
theorem dt_chain {op op' : CmpOp} {r r' : D2} (ho : OpR X (compareOp op) (rD K r)) (ho' : OpR X (compareOp op') (rD K r')) (ha : PE X a (tD K E e da)) (hb : PE X b (tD K E e db)) (hc : PE X c (tD K E e dc)) (hm : lastMarks [op, op'] [b, c] = false := by rfl) :
    PT X (.Compare a [op, op'] [b, c] pos) (tDT K E e (dTst (dChain r r' da db dc))) := PT.imp (pt_chain ho ho' ha hb hc hm) fun σ H Q h => by
  exact tD_chain (tD_tst h)
where
  tD_chain {r r' : D2} {σ : L2.St} {H : Hp} {Q : VK} (h : tD K E e (dChain r r' da db dc) σ H Q) : tChain (rD K r) (rD K r') (tD K E e da) (tD K E e db) (tD K E e dc) σ H Q := by
    obtain ⟨δ, S, Z, q, t, h, k⟩ := h
    refine ⟨δ, S, Z, _, t, h, fun v x H1 S1 g1 x1 r1 h1 => ⟨δ, S1, Z, _, t.to g1 x1, h1, fun w y H2 S2 g2 x2 r2 h2 => ⟨x, y, S2, Z, _, g2, Rep.ext x2 _ _ r1, r2, h2, fun u z H3 S3 g3 x3 r3 h3 => ?_⟩⟩⟩
    obtain ⟨c, rfl, h4⟩ := h3
    refine ⟨c, r3, ?_⟩
    have x13 := x1.trans (x2.trans x3)
    cases c with
    | true => exact iteT ⟨δ, S3, Z, _, t.to g3 x13, h4, fun w' y' H4 S4 g4 x4 r4 h5 => ⟨y, y', S4, Z, q, g4, Rep.ext (x3.trans x4) _ _ r2, r4, h5, k.ext (x13.trans x4)⟩⟩
    | false => exact iteF (k _ (.bl false) H3 S3 g3 x13 rfl h4)
end
theorem lenIs0 {A : Prop} (h : A) : LenIs [] 0 A := h
theorem ift_nt {A B : Prop} (h : B) : Ift (!true) A B := h
theorem ift_nf {A B : Prop} (h : A) : Ift (!false) A B := h
theorem nd_inj {α β : Type} {f : α → β} : ∀ {L : List α} {a b : α}, (L.map f).Nodup → a ∈ L → b ∈ L → f a = f b → a = b
  | [], _, _, _, ha, _, _ => by cases ha
  | x :: r, a, b, nd, ha, hb, h => by
    rw [List.map_cons] at nd
    obtain ⟨n1, n2⟩ := List.nodup_cons.mp nd
    rcases List.mem_cons.mp ha with ea | ha
    · rcases List.mem_cons.mp hb with eb | hb
      · rw [ea, eb]
      · exact absurd (List.mem_map.mpr ⟨b, hb, by rw [← h, ea]⟩) n1
    · rcases List.mem_cons.mp hb with eb | hb
      · exact absurd (List.mem_map.mpr ⟨a, ha, by rw [h, eb]⟩) n1
      · exact nd_inj n2 ha hb h
/-! names with addresses -/
section
variable {β : Type} {L : List (Str × (Addr × β))} {k : Str} {p b : Addr} {l : β}
theorem put_addr (h : b ∈ (aPut L k (p, l)).map (·.2.1)) : b = p ∨ b ∈ L.map (·.2.1) := by
  obtain ⟨e, he, rfl⟩ := List.mem_map.mp h
  rcases aPut_mem he with rfl | ⟨he, _⟩
  · exact .inl rfl
  · exact .inr (List.mem_map.mpr ⟨e, he, rfl⟩)
theorem put_nda (nk : (L.map (·.1)).Nodup) (na : (L.map (·.2.1)).Nodup) (hp : p ∉ L.map (·.2.1)) : ((aPut L k (p, l)).map (·.2.1)).Nodup := by
  have mem : ∀ e ∈ L, e.2.1 ≠ p := fun e he z => hp (List.mem_map.mpr ⟨e, he, z⟩)
  unfold aPut
  split
  · rw [List.map_map]
    have h : L.Pairwise fun x y => x.1 ≠ y.1 ∧ x.2.1 ≠ y.2.1 := List.Pairwise.and (List.pairwise_map.mp nk) (List.pairwise_map.mp na)
    refine List.pairwise_map.mpr (h.imp_of_mem fun {x y} hx hy z => ?_)
    show (if x.1 = k then (x.1, (p, l)) else x).2.1 ≠ (if y.1 = k then (y.1, (p, l)) else y).2.1
    by_cases h1 : x.1 = k
    · rw [if_pos h1, if_neg fun h2 => z.1 (h1.trans h2.symm)]
      exact (mem y hy).symm
    · rw [if_neg h1]
      by_cases h2 : y.1 = k
      · rw [if_pos h2]
        exact mem x hx
      · rw [if_neg h2]
        exact z.2
  · rw [List.map_append]
    refine List.nodup_append.mpr ⟨na, by simp, fun a ha b hb => ?_⟩
    rw [List.mem_singleton.mp hb]
    exact fun z => hp (by rw [show a = p from z] at ha; exact ha)
theorem drop_addr (h : b ∈ (aDrop L k).map (·.2.1)) : b ∈ L.map (·.2.1) := by
  obtain ⟨e, he, rfl⟩ := List.mem_map.mp h
  exact List.mem_map.mpr ⟨e, (aDrop_mem.mp he).1, rfl⟩
theorem drop_nda (na : (L.map (·.2.1)).Nodup) : ((aDrop L k).map (·.2.1)).Nodup := by
  unfold aDrop
  exact na.sublist (List.filter_sublist.map _)
theorem wPut : kPut (encD (fun e : Addr × β => Dt.ref e.1) L) (Sum.inr k) (.ref p) = encD (fun e : Addr × β => Dt.ref e.1) (aPut L k (p, l)) := encD_put k (p, l) L
end
theorem put_keys {α : Type} {L : List (Str × α)} {k : Str} {v w : α} (h : aGet L k = some w) : (aPut L k v).map (·.1) = L.map (·.1) := by
  rw [aPut_keys, if_pos (List.any_eq_true.mpr ⟨_, aGet_mem h, decide_eq_true rfl⟩)]
theorem keys_map {α : Type} {L : List (Str × α)} : (L.map fun p => Dt.str p.1) = (L.map (·.1)).map Dt.str := by
  rw [List.map_map]
  rfl
theorem strs_drop {α : Type} {L : List (Str × α)} {k : Str} : L.filterMap (fun p => if p.1 = k then none else some (Dt.str p.1)) = (aDrop L k).map fun p => Dt.str p.1 := by
  induction L with
  | nil => rfl
  | cons x r ih =>
    by_cases h : x.1 = k
    · rw [List.filterMap_cons_none (by rw [if_pos h]), ih]
      show _ = (List.filter _ (x :: r)).map _
      rw [List.filter_cons_of_neg (by simp [h])]
      rfl
    · rw [List.filterMap_cons_some (by rw [if_neg h]), ih]
      show _ = (List.filter _ (x :: r)).map _
      rw [List.filter_cons_of_pos (by simp [h]), List.map_cons]
      rfl
section
variable {α : Type} {g : α → Dt} {L : List (Str × α)}
theorem items_encD : (encD g L).map (fun p => Dt.tup [keyD p.1, p.2]) = L.map fun e => Dt.tup [.str e.1, g e.2] := by
  unfold encD
  rw [List.map_map]
  rfl
theorem keys_encD : (encD g L).map (fun p => keyD p.1) = L.map fun e => Dt.str e.1 := by
  unfold encD
  rw [List.map_map]
  rfl
theorem vals_encD : (encD g L).map (fun p => p.2) = L.map fun e => g e.2 := by
  unfold encD
  rw [List.map_map]
  rfl
end
/-- a store told by what it holds -/
theorem store_eq {S S' : Store} {p : Addr} {c : Cell} (h1 : S' p = some c) (h2 : ∀ b, b ≠ p → S' b = S b) : S' = sput S p c := by
  funext b
  by_cases h : b = p
  · rw [h, h1, sput_same]
  · rw [h2 b h, sput_ne h]
/-- a text or None -/
@[reducible] def oS : Option Str → Dt
  | none => .non
  | some z => .str z
theorem oS_eq (o : Option Str) : oS o = Enc.enc o := by cases o <;> rfl
theorem tells_oS : Tells oS 0 := ⟨fun a => by rw [oS_eq]; exact Enc.dat a, fun a b => by rw [oS_eq, oS_eq]; exact Enc.eqv a b, fun a => by rw [oS_eq]; exact Enc.dep_le a⟩
@[reducible] def oI : Option Int → Dt
  | none => .non
  | some z => .int z
theorem oI_eq (o : Option Int) : oI o = Enc.enc o := by cases o <;> rfl
theorem tells_oI : Tells oI 0 := ⟨fun a => by rw [oI_eq]; exact Enc.dat a, fun a b => by rw [oI_eq, oI_eq]; exact Enc.eqv a b, fun a => by rw [oI_eq]; exact Enc.dep_le a⟩
/-! in -/
section
variable {S : Store} {q : DK} {α : Type} {f : α → Str} {L : List α} {a : Addr} {k : Str}
theorem strs_mem : memD (.str k) (L.map fun x => Dt.str (f x)) = decide (k ∈ L.map f) := by
  have h := (tells_enc (α := Str)).mem k (L.map f)
  rw [List.map_map] at h
  exact h
theorem strs_dat : areDat (L.map fun x => Dt.str (f x)) = true := areDat_of fun d hd => by
  obtain ⟨_, _, rfl⟩ := List.mem_map.mp hd
  rfl
theorem strs_dep : (py (.lst (L.map fun x => Dt.str (f x)))).depth ≤ 64 := Nat.le_trans (Nat.succ_le_succ (pys_dep (n := 0) fun d hd => by
  obtain ⟨_, _, rfl⟩ := List.mem_map.mp hd
  exact Nat.le_refl _)) (by decide)
theorem in_strsC (h : S a = some (.lst (L.map fun x => .str (f x)))) (hq : q (.bl (decide (k ∈ L.map f))) S) : dIn false (.str k) (.ref a) S q := ⟨_, h, ⟨rfl, strs_dat, Nat.zero_le _, strs_dep⟩, by rw [strs_mem]; exact hq⟩
theorem notin_strsC (h : S a = some (.lst (L.map fun x => .str (f x)))) (hq : q (.bl (!decide (k ∈ L.map f))) S) : dIn true (.str k) (.ref a) S q := ⟨_, h, ⟨rfl, strs_dat, Nat.zero_le _, strs_dep⟩, by rw [strs_mem]; exact hq⟩
theorem in_strs (hq : q (.bl (decide (k ∈ L.map f))) S) : dIn false (.str k) (.lst (L.map fun x => .str (f x))) S q := ⟨⟨rfl, strs_dat, Nat.zero_le _, strs_dep⟩, by rw [strs_mem]; exact hq⟩
theorem notin_strs (hq : q (.bl (!decide (k ∈ L.map f))) S) : dIn true (.str k) (.lst (L.map fun x => .str (f x))) S q := ⟨⟨rfl, strs_dat, Nat.zero_le _, strs_dep⟩, by rw [strs_mem]; exact hq⟩
end
/-! runs over a list, item by item -/
section
variable {keep : Store → Prop} {g : DTG} {b : DTS} {D : DEnds} {tt : DTT} {te : DTE} {q : List Dt → Store → Prop} {δ : DS} {l : List Dt} {S : Store} {it : DTL} {w : List Nat}
@[reducible] def forGo (keep : Store → Prop) (g : DTG) (b : DTS) (D : DEnds) : List Dt → DS → Store → Prop
  | [], δ, S => keep S ∧ D.nx δ S
  | d :: r, δ, S => keep S ∧ g d δ S fun δ' S' => b { D with nx := forGo keep g b D r, ct := forGo keep g b D r, bk := D.nx } δ' S'
theorem forGo_keep : ∀ {l : List Dt} {δ : DS} {S : Store}, forGo keep g b D l δ S → keep S
  | [], _, _, h => h.1
  | _ :: _, _, _, h => h.1
theorem for_go (h : forGo keep g b D l δ S) : ∃ I : Nat → DS → Store → Prop, I 0 δ S ∧ (∀ i δ S, i ≤ l.length → I i δ S → keep S) ∧
    (∀ i d δ S, l[i]? = some d → I i δ S → g d δ S fun δ' S' => b { D with nx := I (i + 1), ct := I (i + 1), bk := D.nx } δ' S') ∧ ∀ δ S, I l.length δ S → D.nx δ S := by
  refine ⟨fun i => forGo keep g b D (l.drop i), h, fun i δ S _ h => forGo_keep h, fun i d δ S e h => ?_, fun δ S h => ?_⟩
  · have e2 : l.drop i = d :: l.drop (i + 1) := by
      obtain ⟨hi, e⟩ := List.getElem?_eq_some_iff.mp e
      rw [List.drop_eq_getElem_cons hi, e]
    have h : forGo keep g b D (l.drop i) δ S := h
    rw [e2] at h
    exact h.2
  · have h : forGo keep g b D (l.drop l.length) δ S := h
    rw [List.drop_length] at h
    exact h.2
theorem forGo_ind {α : Type} (enc : α → Dt) (P : List α → DS → Store → Prop) (nil : ∀ δ S, P [] δ S → keep S ∧ D.nx δ S)
    (cons : ∀ x r δ S, P (x :: r) δ S → keep S ∧ ∀ nx, (∀ δ' S', P r δ' S' → nx δ' S') → g (enc x) δ S fun δ' S' => b { D with nx := nx, ct := nx, bk := D.nx } δ' S') :
    ∀ (L : List α) (δ : DS) (S : Store), P L δ S → forGo keep g b D (L.map enc) δ S
  | [], δ, S, h => nil δ S h
  | x :: r, δ, S, h => ⟨(cons x r δ S h).1, (cons x r δ S h).2 _ fun δ' S' h' => forGo_ind enc P nil cons r δ' S' h'⟩
@[reducible] def lcGo (keep : Store → Prop) (g : DTG) (tt : DTT) (te : DTE) (q : List Dt → Store → Prop) (δ : DS) : List Dt → List Dt → Store → Prop
  | [], acc, S => keep S ∧ q acc S
  | d :: r, acc, S => keep S ∧ g d δ S fun δ' S' => tt δ' S' fun b S2 => Ift b (te δ' S2 fun y S3 => lcGo keep g tt te q δ r (acc ++ [y]) S3) (lcGo keep g tt te q δ r acc S2)
theorem lcGo_keep : ∀ {l acc : List Dt} {S : Store}, lcGo keep g tt te q δ l acc S → keep S
  | [], _, _, h => h.1
  | _ :: _, _, _, h => h.1
theorem lc_go (h : lcGo keep g tt te q δ l [] S) : ∃ I : Nat → List Dt → Store → Prop, I 0 [] S ∧ (∀ i acc S, i ≤ l.length → I i acc S → keep S) ∧
    (∀ i d acc S, l[i]? = some d → I i acc S → g d δ S fun δ' S' => tt δ' S' fun b S2 => Ift b (te δ' S2 fun y S3 => I (i + 1) (acc ++ [y]) S3) (I (i + 1) acc S2)) ∧ ∀ acc S, I l.length acc S → q acc S := by
  refine ⟨fun i => lcGo keep g tt te q δ (l.drop i), h, fun i acc S _ h => lcGo_keep h, fun i d acc S e h => ?_, fun acc S h => ?_⟩
  · have e2 : l.drop i = d :: l.drop (i + 1) := by
      obtain ⟨hi, e⟩ := List.getElem?_eq_some_iff.mp e
      rw [List.drop_eq_getElem_cons hi, e]
    have h : lcGo keep g tt te q δ (l.drop i) acc S := h
    rw [e2] at h
    exact h.2
  · have h : lcGo keep g tt te q δ (l.drop l.length) acc S := h
    rw [List.drop_length] at h
    exact h.2
/-- what changes nothing -/
theorem lcGo_pure {α : Type} (enc : α → Dt) (f : α → Option Dt) (hk : keep S) : ∀ (L : List α) (acc : List Dt), (∀ x ∈ L, ∀ (kY : Dt → Store → Prop) (kN : Store → Prop), (∀ y, f x = some y → kY y S) → (f x = none → kN S) → g (enc x) δ S fun δ' S' => tt δ' S' fun b S2 => Ift b (te δ' S2 kY) (kN S2)) →
    q (acc ++ L.filterMap f) S → lcGo keep g tt te q δ (L.map enc) acc S
  | [], acc, _, h => ⟨hk, by simpa using h⟩
  | x :: r, acc, st, h => ⟨hk, st x List.mem_cons_self _ _
      (fun y e => lcGo_pure enc f hk r (acc ++ [y]) (fun x' hx' => st x' (List.mem_cons_of_mem _ hx')) (by rw [List.filterMap_cons_some e] at h; rw [List.append_assoc]; exact h))
      (fun e => lcGo_pure enc f hk r acc (fun x' hx' => st x' (List.mem_cons_of_mem _ hx')) (by rw [List.filterMap_cons_none e] at h; exact h))⟩
end
/-! the dice of every law -/
def cRoll : DSp := fun ds S q _ => ∃ (d : Addr) (x n k m : Int), ds = [.ref d, .int m] ∧ S d = some (.lst [.int x, .int n, .int k]) ∧ (0 < m ∧ m ≤ 100000000) ∧
  ∀ r x' n' k' : Int, 0 ≤ r → r < m → q (.int r) (sput S d (.lst [.int x', .int n', .int k']))
def cDice : DSp := fun ds S q _ => ∃ c : Int, ds = [.int c] ∧ ∀ (p : Addr) (x n k : Int), S p = none → q (.ref p) (sput S p (.lst [.int x, .int n, .int k]))
def cRounds : DSp := fun ds S q _ => ∃ ns : List Int, ds = [.scr ns, .int 1] ∧ ns.length ≤ 10000 ∧ ∀ (p : Addr) (x n k : Int), S p = none → q (.lst [.ref p]) (sput S p (.lst [.int x, .int n, .int k]))
end Dn

/-! sum(.. for k, v in d.items()), the new code known by its name -/
namespace Pr
open PySem PySem.Spec PyProof.Rows L2 LamX
section
variable {X : Cx} {pins : List (Addr × Obj)} {σ : L2.St} {H : Hp} {s : Shared}
/-- the table's object is written, the code object at c is new and known from now on; generators have come and gone -/
theorem inv_tableG {P c : Addr} {q : Str} {ps more : Array Value} {h' : Heap} {g' : Array GenState} {d' : Drawn} {t' : Nat} (I : Inv X pins σ H s) (hP : H P = some (.tbl ps)) (k : ∀ b o, b ≠ P → s.heap.get? b = some o → h'.get? b = some o)
    (hm : h'.get? P = some { cls := .none, data := .fields (ps ++ more) }) (hc : s.heap.objs.size ≤ c) (ho : ∃ (oc : Obj) (vs : Array Value) (t : Tok), h'.get? c = some oc ∧ oc.data = .fields vs ∧ vs[1]? = some (.str q t)) (hg : AllBare g') :
    Inv X pins σ (upd (upd H P (.tbl (ps ++ more))) c (CodeO c q)) { s with heap := h', gens := g', drawn := d', toks := t' } := by
  have nC : H c = none := I.hok.fresh hc
  have nPc : P ≠ c := ne_of_none hP nC
  have J := inv_table (t' := t') I hP k hm hc ho
  have atP : upd (upd H P (.tbl (ps ++ more))) c (CodeO c q) P = some (.tbl (ps ++ more)) := by rw [upd_ne nPc, upd_same]
  have J2 := GxR.inv_tab (more := #[]) (h' := h') (g' := g') (d' := d') (t' := t') J atP (fun b o _ e => e) (by rw [Array.append_empty]; exact hm) hg
  rw [Array.append_empty] at J2
  have e1 : upd (upd (upd H P (.tbl (ps ++ more))) c (CodeO c q)) P (.tbl (ps ++ more)) = upd (upd H P (.tbl (ps ++ more))) c (CodeO c q) := by
    funext b
    by_cases hb : b = P
    · rw [hb, upd_same, atP]
    · rw [upd_ne hb]
  rw [e1] at J2
  exact J2
end
section
variable {prog : Program} {w : World} {A : Around} {E : Value → Shared → Prop} {s : Shared} {env : Env} {c P : Addr} {ps : Array Value} {pos : Pos} {qn : Str} {scope : Scope} {R : Value → Shared → Prop}
def NewCode (h : Heap) (h3 : Heap) (pos : Pos) (qn : Str) (ps ps' : Array Value) : Prop := ps' = ps ∨ (codeAmong pos ps.toList = none ∧ ∃ c', h.objs.size ≤ c' ∧ c' < h3.objs.size ∧ ps' = ps ++ #[rawInt pos.line, rawInt pos.col, .ref c'] ∧ ∃ (oc : Obj) (vs : Array Value) (t : Tok), h3.get? c' = some oc ∧ oc.data = .fields vs ∧ vs[1]? = some (.str qn t))
theorem code_anyN (hcode : env.code = .ref c) (cd : PySem.W.CodeHd s.heap c P)
    (hP : s.heap.get? P = some { cls := .none, data := .fields ps }) (ht : TriplesOk ps.toList)
    (k : ∀ code h3 tk ps', Heap.ExtBut P s.heap h3 → s.heap.objs.size ≤ h3.objs.size → h3.get? P = some { cls := .none, data := .fields ps' } → NewCode s.heap h3 pos qn ps ps' → R code { s with heap := h3, toks := tk }) :
    wpAny (model prog w) A (genexprCode env pos qn scope) R E s := by
  rcases hf : codeAmong pos ps.toList with _ | cv
  · refine wpAny_genexprCodeX hcode (cd.code hP ht) (cd.tab hP) hf ?_
    intro c' h' tk hx hge hlt hco hrec htab _
    obtain ⟨c2, oc, vs, t, e2, hoc, hd, hv⟩ := hrec
    cases e2
    exact k _ h' tk _ hx (Nat.le_trans hge (Nat.le_of_lt hlt)) htab.2 (.inr ⟨hf, c', hge, hlt, rfl, oc, vs, t, hoc, hd, hv⟩)
  · refine wpAny_genexprCode_hit hcode (cd.code hP ht) hf ?_
    exact k cv s.heap s.toks ps (Heap.ExtBut.refl _ _) (Nat.le_refl _) hP (.inl rfl)
end
/-- the frame's state behind a generator that has come and gone -/
theorem inv_gen2 {h2 : Heap} {X : Cx} {pins : List (Addr × Obj)} {σ : L2.St} {H : Hp} {s : Shared} {T : List (Addr × Str)} {P : Addr} {qn : Str} {pos : Pos} {ps ps' : Array Value} {h3 h' : Heap} {g' : Array GenState} {d' : Drawn} {t' : Nat} (I : Inv X pins σ H s) (hT : Tabs T H) (hmT : (P, qn) ∈ T) (huT : ∀ p ∈ T, p.1 = P → p.2 = qn)
    (hP : H P = some (.tbl ps)) (nc : NewCode h2 h3 pos qn ps ps') (h12 : s.heap.objs.size ≤ h2.objs.size) (k : ∀ b o, b ≠ P → s.heap.get? b = some o → h'.get? b = some o) (hm : h'.get? P = some { cls := .none, data := .fields ps' })
    (kc : ∀ b o, h2.objs.size ≤ b → b < h3.objs.size → h3.get? b = some o → h'.get? b = some o) (hg : AllBare g') : ∃ H2, Inv X pins σ H2 { s with heap := h', gens := g', drawn := d', toks := t' } ∧ ExtN H H2 ∧ Tabs T H2 := by
  rcases nc with rfl | ⟨hf, c', hge, hlt, rfl, oc, vs, t, hoc, hd, hv⟩
  · have J := GxR.inv_tab (more := #[]) (h' := h') (g' := g') (d' := d') (t' := t') I hP k (by rw [Array.append_empty]; exact hm) hg
    rw [Array.append_empty] at J
    have e1 : upd H P (.tbl ps') = H := by
      funext b
      by_cases hb : b = P
      · rw [hb, upd_same, hP]
      · rw [upd_ne hb]
    rw [e1] at J
    exact ⟨H, J, ExtN.refl H, hT⟩
  · obtain ⟨ps0, hP0, ht, ha⟩ := hT _ hmT
    rw [show H P = _ from hP0] at hP
    cases hP
    have hge2 := Nat.le_trans h12 hge
    have nC : H c' = none := I.hok.fresh hge2
    have hP : H P = some (.tbl ps) := hP0
    have hE : ExtN H (upd (upd H P (.tbl (ps ++ #[rawInt pos.line, rawInt pos.col, .ref c']))) c' (CodeO c' qn)) := fun b o e n => by
      rw [upd_ne (ne_of_none e nC), upd_ne (fun z => n ps (Option.some.inj (e.symm.trans (by rw [z]; exact hP))))]
      exact e
    have eL : (ps ++ #[rawInt pos.line, rawInt pos.col, .ref c']).toList = ps.toList ++ [rawInt pos.line, rawInt pos.col, .ref c'] := by simp
    refine ⟨_, inv_tableG I hP k hm hge2 ⟨oc, vs, t, kc _ _ hge hlt hoc, hd, hv⟩ hg, hE, fun p hp => ?_⟩
    by_cases hb : p.1 = P
    · rw [huT p hp hb, hb]
      refine ⟨_, by rw [upd_ne (ne_of_none hP nC), upd_same], by rw [eL]; exact PySem.TriplesOk_snoc _ _ _ _ ht, fun p' cv hcv => ?_⟩
      rw [eL] at hcv
      rcases among_app _ ht hcv with z | z
      · obtain ⟨c0, e1, e2⟩ := ha p' cv z
        exact ⟨c0, e1, hE _ _ e2 codeO_ne⟩
      · exact ⟨c', z, upd_same⟩
    · obtain ⟨ps', a1, a2, a3⟩ := hT p hp
      refine ⟨ps', by rw [upd_ne (ne_of_none a1 nC), upd_ne hb]; exact a1, a2, fun p' cv hcv => ?_⟩
      obtain ⟨c0, e1, e2⟩ := a3 p' cv hcv
      exact ⟨c0, e1, hE _ _ e2 codeO_ne⟩
/-- sum(.. for a, b in d.items()), the dict of texts by texts -/
def tSumItN (T : List (Addr × Str)) (Pz : Str → Str → Prop) (f : Str → Str → Int) (td : TE) : TE := fun σ H Q => td σ H fun x H1 => ∃ (d : Addr) (L : List (Str × Str)), x = .ref d ∧ H1 d = some (.dK (enc V.str L)) ∧ (∀ e ∈ L, Pz e.1 e.2) ∧ Tabs T H1 ∧
  (∀ j, j < L.length → InLong (valAt f L j) ∧ InLong (preSum (valAt f L) (j + 1))) ∧ ∀ H2, ExtN H1 H2 → Tabs T H2 → Q (.int (preSum (valAt f L) L.length)) H2
section
variable {X : Cx}
theorem pe_sumItN {T : List (Addr × Str)} {c P : Addr} {elt e : Expr} {xa xb : Str} {pa pb pt p pos gpos apos cpos : Pos} {kt : Nat} {scope : Scope} {Pz : Str → Str → Prop} {f : Str → Str → Int} {td : TE} {k : Nat}
    (hr : Room k X.A) (hg : Gl X "sum") (hm : X.mg "sum" = none) (hb : bootBuiltins "sum" = some (.builtin "sum")) (TB : TabB X.base X.mg c P) (hcode : X.env.code = .ref c) (hmT : (P, X.env.qual ++ "<genexpr>") ∈ T) (huT : ∀ p ∈ T, p.1 = P → p.2 = X.env.qual ++ "<genexpr>") (S : X.Ok → GenS2 X.env scope xa xb) (hd : PE X e td) (hel : Mod X.K X.mg X.base → EltI X.prog X.w X.base X.env scope xa xb elt Pz f)
    (hs : ∀ v, genFold (.Call (.Attribute e "items" apos) [] [] cpos) X.env v = pure v) (hbase : attributeBase e "items" X.env (eval e X.env) = eval e X.env := by rfl) (hline : (apos.endLine == cpos.line) = true := by rfl)
    (he : starEach [.GeneratorExp elt [⟨.Tuple [.Name xa pa, .Name xb pb] kt pt, .Call (.Attribute e "items" apos) [] [] cpos, [], 0⟩] scope gpos] X.env = (false, eval (.GeneratorExp elt [⟨.Tuple [.Name xa pa, .Name xb pb] kt pt, .Call (.Attribute e "items" apos) [] [] cpos, [], 0⟩] scope gpos) X.env) :: starEach [] X.env := by rfl) :
    PE X (.Call (.Name "sum" p) [.GeneratorExp elt [⟨.Tuple [.Name xa pa, .Name xb pb] kt pt, .Call (.Attribute e "items" apos) [] [] cpos, [], 0⟩] scope gpos] [] pos) (tSumItN T Pz f td) := by
  refine ⟨fun pins s σ H Q I h => ?_⟩
  have S := S I.ok
  refine wpAny_Call_Name_kw (ld_blt I hg hm hb ?_)
  refine PyProof.Rows.callWith_builtin1 ?_ he (by rfl)
  rw [he]
  refine Calls.spliced_cons ?_
  refine wpAny_GeneratorExp_walksQT hr.hd S.co (closure_ok S.free) S.cell S.dot S.la S.lb S.ab S.kind (by have := hr.dp; omega) ?_ hs
  refine wpAny_Call_method (T := "dict") (id := "dict.items") hbase rfl hline PySem.F.plainAttrs_dict PySem.F.slot_dict_items PySem.F.type_dict_items (thn (hd.run pins s σ H _ I h) ?_)
  rintro u s1 ⟨x, H1, I1, rx, d, L, rfl, hdk, hPz, hT, fits, q⟩
  obtain rfl := (show u = Value.ref d from rx)
  obtain ⟨ps, hP, ht, ha⟩ := id (hT _ hmT)
  obtain ⟨z, hsd, vs, kv, ob, es, ep, ho, hx, hdt, r⟩ := I1.hok d _ hdk
  have dAt : s1.heap.DictAt (mixKind X.prog X.w) d vs ep := ⟨ob, es, ho, hx, hdt, r⟩
  refine ⟨dAt.dictOf.typeIs, dAt.dictOf.mapOf.noDict, ?_⟩
  refine method_meetsIn PySem.F.slot_dict_items PySem.F.entry_dict_items rfl (PySem.evalArgs_none ⟨rfl, dAt.dictOf.typeIs, PySem.F.args_dict_items_1 _, _, meets_dict_items (mixKind X.prog X.w) d hsd, ⟨vs, dAt.dictOf⟩, ?_⟩)
  refine wpAny_pyIter_items (d := d) (knd := mixKind X.prog X.w) ⟨_, Heap.get?_push_size _ rfl, rfl, rfl⟩ (dAt.push _) ?_
  generalize ev : ({ cls := .type "dict_items", data := .fields #[.ref d] } : Obj) = view
  generalize eg : s1.heap.push view = h1
  have sz1 : h1.objs.size = s1.heap.objs.size + 1 := by rw [← eg]; exact Heap.size_push ..
  have keep1 : ∀ b o, s1.heap.get? b = some o → h1.get? b = some o := fun b o e => by rw [← eg]; exact Heap.get?_push_of_some _ e
  show (h1.push _).NoLimit ∧ _
  generalize ei : ({ cls := .type "dict_itemiterator", data := .fields #[.none, .bool false, .ref d, .int 0 0, .int vs.length 0, .int ep 0, .none, .none] } : Obj) = ito
  have itAt : IsItemIter (h1.push ito) h1.objs.size d 0 vs.length ep .none .none := by rw [← ei]; exact Heap.get?_push_size _ rfl
  have sz2 : (h1.push ito).objs.size = h1.objs.size + 1 := Heap.size_push ..
  have keep2 : ∀ b o, s1.heap.get? b = some o → (h1.push ito).get? b = some o := fun b o e => Heap.get?_push_of_some _ (keep1 b o e)
  have lim2 : (h1.push ito).NoLimit := I1.nolimit.keeps keep2
  have dAt2 : (h1.push ito).DictAt (mixKind X.prog X.w) d vs ep := dAt.at fun o z => keep2 d o z
  have dlt : d < s1.heap.objs.size := dAt.lt_size
  have ltI : s1.heap.objs.size < h1.objs.size := by rw [sz1]; exact Nat.lt_succ_self _
  have lt2 : h1.objs.size < (h1.push ito).objs.size := by rw [sz2]; exact Nat.lt_succ_self _
  generalize h1.push ito = h2 at itAt lt2 keep2 lim2 dAt2 ⊢
  have hP1 : s1.heap.get? P = some { cls := .none, data := .fields ps } := I1.hok P _ hP
  have Plt : P < s1.heap.objs.size := Heap.lt_size hP1
  have hP2 := keep2 _ _ hP1
  have cd : PySem.W.CodeHd h2 c P := TB.code.keeps fun b u e => keep2 b u (I1.bk b u e)
  refine ⟨lim2, ?_⟩
  refine code_anyN hcode cd hP2 ht fun code h3 tk ps' hx hsz hP3 hnc => ?_
  have sz2' : h2.objs.size ≤ h3.objs.size := hsz
  have keep3 : ∀ b u, b ≠ P → h2.get? b = some u → h3.get? b = some u := fun b u n e => hx b u n e
  obtain ⟨bm, bo, e1, e2, e3, e4, e5, e6, e7, e8⟩ := TB.bm
  refine wpAny_builtinsFor (m := X.mg) (by rw [I1.ok.glob]; exact ((I1.mod.glob.keeps I1.bk).keeps keep2).extBut hx TB.gP) e1 e2 (keep3 _ _ e4 (keep2 _ _ (I1.bk _ _ e5))) e6 e7 e8 ?_
  have cP : cStatics ≠ P := fun z => by
    obtain ⟨_, hns, _⟩ := I1.nolimit
    obtain ⟨o', es', ep', ho', hd', _⟩ := hns
    rw [z, hP1] at ho'
    cases ho'
    cases hd'
  have clt : cStatics < s1.heap.objs.size := let ⟨_, hns, _⟩ := I1.nolimit; hns.lt
  have dP : d ≠ P := ne_of hdk hP (by intro y; cases y)
  have IP : h1.objs.size ≠ P := Nat.ne_of_gt (Nat.lt_trans Plt ltI)
  have dI : d ≠ h1.objs.size := Nat.ne_of_lt (Nat.lt_trans dlt ltI)
  have hlen : vs.length = L.length := by
    have := Paired.length kv
    rw [enc_len] at this
    omega
  refine ⟨h1.objs.size, [h1.objs.size, d], [h1.objs.size], vs.length, _, _, _, fun _ => true, fun i y => ∃ e t, L[i]? = some e ∧ y = .int (f e.1 e.2) t, rfl, fun A' hA => walksU_items hA _ d dI vs ep, fun i vals hv => ?_, ⟨⟨_, _, keep3 _ _ IP itAt⟩, dAt2.at fun o y => keep3 _ _ dP y⟩, fun b hb => ?_, lim2.extBut hx cP, ?_, fun href hhref => ?_, fun g h5 tk5 gs hgb hag hsz5 hk5 W5 hgat => ?_⟩
  · obtain ⟨k, v, key, _, _, rfl⟩ := hv
    exact ⟨_, _, rfl⟩
  · show b < h3.objs.size
    rcases List.mem_cons.mp hb with y | y
    · rw [y]; exact Nat.lt_of_lt_of_le lt2 sz2'
    · rw [List.mem_singleton.mp y]; exact Nat.lt_of_lt_of_le dAt2.lt_size sz2'
  · intro y
    exact Nat.ne_of_lt (Nat.lt_trans clt ltI) (List.mem_singleton.mp y)
  · refine ⟨fun A' E' i va vb s₂ m₂ hA hPv hn hma hmb hk => ?_, fun A' E' i va vb s₂ m₂ hA hPv hp hn hma hmb hk => ?_⟩
    · simp only [List.forIn_nil]
      exact wpAny_pure ⟨rfl, GxR.keeps_refl _⟩
    · obtain ⟨k', v', key, hkv, hkey, evs⟩ := hPv
      obtain ⟨e0, t0, he0, rfl, rfl⟩ := kv_str kv hkv
      cases evs
      rcases keyIs_shape (show keyIs (Sum.inr e0.1) va = true from hkey) with ⟨i0, t1, z1, _⟩ | ⟨x0, t1, z1, rfl⟩
      · cases z1
      · cases z1
        have base2 : ∀ b o, X.base.get? b = some o → s₂.heap.get? b = some o := fun b o e => by
          have b1 := I1.bk b o e
          have lb := Heap.lt_size b1
          have nP : b ≠ P := fun y => by
            have := (I1.bs b o e).2
            rw [y, hP] at this
            cases this
          have b3 := keep3 b o nP (keep2 b o b1)
          exact hk b (List.mem_range.mpr (Heap.lt_size b3)) (fun y => Nat.ne_of_lt (Nat.lt_trans lb ltI) (List.mem_singleton.mp y)) o (hhref b o b3)
        refine wpAny_mono (hel I1.mod _ _ _ A' E' _ _ _ _ s₂ m₂ (hPz _ (List.mem_of_getElem? he0)) base2 hn hma hmb) (fun y s3 rr => ?_) fun _ _ e => e
        obtain ⟨⟨t', et⟩, kp⟩ := rr
        exact ⟨⟨e0, t', he0, et⟩, kp⟩
  · refine Calls.spliced_nil ?_
    simp only [GxR.passing_true, List.length_range] at W5
    refine call_sum_walkS (W5.in4_1.self 0 _ _ _ hgat ⟨g, _, _, _, _, _, _, valAt f L, rfl, W5.in4_1, hgat, fun b hb => ?_, fun i y hy => ?_, fun j hj => ?_, fun s' t' hmv => ?_⟩)
    · show b < h5.objs.size
      rw [show h5.objs.size = g + 1 from hsz5]
      have hag' : h3.objs.size < g := hag
      rcases List.mem_cons.mp hb with y | y
      · rw [y]; exact Nat.lt_succ_self _
      · rcases List.mem_cons.mp y with y | y
        · rw [y]; exact Nat.lt_succ_of_lt hag'
        · exact Nat.lt_succ_of_lt (Nat.lt_trans (List.mem_range.mp y) hag')
    · obtain ⟨i2, hi2, e0, t0, he0, rfl⟩ := hy
      obtain ⟨hj2, ej⟩ := List.getElem?_eq_some_iff.mp hi2
      rw [List.getElem_range] at ej
      subst ej
      exact ⟨t0, by unfold valAt; rw [he0]⟩
    · rw [hlen] at hj
      exact fits j hj
    · have lt3 : h1.objs.size < h3.objs.size := Nat.lt_of_lt_of_le lt2 sz2'
      have out : ∀ b u, s1.heap.get? b = some u → b ∉ h3.objs.size :: [h1.objs.size] := fun b u e m => by
        have lb := Heap.lt_size e
        rcases List.mem_cons.mp m with y | y
        · exact Nat.ne_of_lt (Nat.lt_trans (Nat.lt_trans lb ltI) lt3) y
        · exact Nat.ne_of_lt (Nat.lt_trans lb ltI) (List.mem_singleton.mp y)
      obtain ⟨H2, J, x2, t2⟩ := inv_gen2 (h' := s'.heap) (g' := s'.gens) (d' := s'.drawn) (t' := s'.toks) I1 hT hmT huT hP hnc (Nat.le_of_lt (Nat.lt_trans ltI lt2)) (fun b u hb e => hmv.heap b u (out b u e) (hk5 b u (keep3 b u hb (keep2 b u e))))
        (hmv.heap P _ (out P _ hP1) (hk5 P _ hP3)) (fun b u h1' h2' e => hmv.heap b u (fun m => by
          rcases List.mem_cons.mp m with y | y
          · exact Nat.ne_of_lt h2' y
          · exact Nat.ne_of_gt (Nat.lt_of_lt_of_le lt2 h1') (List.mem_singleton.mp y)) (hk5 b u e)) (AllBare.movedS (I1.bare.push hgb) hmv)
      rw [GxR.sh_eta s1 s' hmv.os] at J
      refine ⟨.int _, _, J, ⟨t', rfl⟩, ?_⟩
      rw [hlen]
      exact q _ x2 t2
end
end Pr

/-! lists that are cells compared; sum(len(k) + len(v) for k, v in d.items()) -/
namespace Dn
open PySem PySem.Spec PyProof.Rows L2 Pr LamX
/-- a cell that is a list, as a list -/
@[reducible] def seeV (x : Dt) (S : Store) (k : Dt → Prop) : Prop := match x with
  | .ref a => ∃ l, S a = some (.lst l) ∧ k (.lst l)
  | x => k x
@[reducible] def dEqV : D2 := fun x y S q => seeV x S fun x' => seeV y S fun y' => dEq x' y' S q
@[reducible] def dNeV : D2 := fun x y S q => seeV x S fun x' => seeV y S fun y' => dNe x' y' S q
section
variable {X : Cx} {K : PySem.W.Frag} {Z H : Hp} {S : Store}
theorem seeV_of {d : Dt} {v : V} (g : Good K Z H S) (r : Rep K (out H S Z) d v) {k : Dt → Prop} (h : seeV d S k) : ∃ d', k d' ∧ (isDat d' = true → Dp K H v (py d') ∧ ((py d').depth ≤ 64 → SeqAt.shaped (py d') = true)) := by
  cases d with
  | ref a =>
    obtain ⟨l, h1, h2⟩ := h
    obtain ⟨o, h3, vs, rfl, h4⟩ := g.c a _ h1
    refine ⟨_, h2, fun hd => ⟨?_, fun hl => ?_⟩⟩
    · rw [show v = _ from r]
      exact .lst (SqL.of h3) (Reps.dp _ _ hd h4)
    · show ((py (.lst l)).canLay0 && decide ((py (.lst l)).depth ≤ 64)) = true
      rw [show (py (.lst l)).canLay0 = true from Reps.lay _ _ h4, decide_eq_true hl]
      rfl
  | _ => exact ⟨_, h, fun hd => ⟨Rep.dp _ _ hd r, fun hl => Rep.shaped r hl⟩⟩
theorem od_eqV (hK : X.K = K) (hu : X.A.units + 64 < cLine) : OpR X (compareOp .Eq) (rD K dEqV) := fun pins s σ H x y v u Q I rv ru ⟨dx, dy, S, Z, q, g, rx, ry, h, k⟩ => by
  subst hK
  obtain ⟨x', h, fx⟩ := seeV_of g rx h
  obtain ⟨y', ⟨⟨h1, h2, h3, h4⟩, h⟩, fy⟩ := seeV_of g ry h
  exact op_eqD hu pins s σ H x y v u Q I rv ru ⟨py x', py y', (fx h1).1, (fy h2).1, (fx h1).2 h3, (fy h2).2 h4, k.here g h rfl⟩
theorem od_neV (hK : X.K = K) (hu : X.A.units + 64 < cLine) : OpR X (compareOp .NotEq) (rD K dNeV) := fun pins s σ H x y v u Q I rv ru ⟨dx, dy, S, Z, q, g, rx, ry, h, k⟩ => by
  subst hK
  obtain ⟨x', h, fx⟩ := seeV_of g rx h
  obtain ⟨y', ⟨⟨h1, h2, h3, h4⟩, h⟩, fy⟩ := seeV_of g ry h
  exact op_neD hu pins s σ H x y v u Q I rv ru ⟨py x', py y', (fx h1).1, (fy h2).1, (fx h1).2 h3, (fy h2).2 h4, k.here g h rfl⟩
end
theorem TabX.frm {T : List (Addr × Str)} {M : List Addr} {S S' : Store} (h : TabX T S) (f : Frm M S S') (n : ∀ b ∈ M, ∀ q, S b ≠ some (.tbl q)) : TabX T S' :=
  ⟨fun p hp => f.k _ _ (h.1 p hp) fun m => n _ m _ (h.1 p hp), fun a q e => h.2 a q (f.t a q e)⟩
theorem Tells.neS {α : Type} [DecidableEq α] {f : α → Dt} {n : Nat} {S : Store} {q : DK} (t : Tells f n) (hn : n ≤ 64) {a : α} (h : q (.bl false) S) : dNe (f a) (f a) S q := t.ne hn (by rw [decide_eq_true rfl]; exact h)
theorem Tells.eqS {α : Type} [DecidableEq α] {f : α → Dt} {n : Nat} {S : Store} {q : DK} (t : Tells f n) (hn : n ≤ 64) {a : α} (h : q (.bl true) S) : dEq (f a) (f a) S q := t.eq hn (by rw [decide_eq_true rfl]; exact h)
section
variable {S : Store} {q : DK} {z : Str} {b : Bool} {i : Int}
theorem eq_strS (h : q (.bl true) S) : dEq (.str z) (.str z) S q := (tells_enc (α := Str)).eqS (Nat.zero_le _) h
theorem ne_strS (h : q (.bl false) S) : dNe (.str z) (.str z) S q := (tells_enc (α := Str)).neS (Nat.zero_le _) h
theorem eq_blS (h : q (.bl true) S) : dEq (.bl b) (.bl b) S q := (tells_enc (α := Bool)).eqS (Nat.zero_le _) h
theorem ne_blS (h : q (.bl false) S) : dNe (.bl b) (.bl b) S q := (tells_enc (α := Bool)).neS (Nat.zero_le _) h
theorem eq_intS (h : q (.bl true) S) : dEq (.int i) (.int i) S q := (tells_enc (α := Int)).eqS (Nat.zero_le _) h
theorem ne_intS (h : q (.bl false) S) : dNe (.int i) (.int i) S q := (tells_enc (α := Int)).neS (Nat.zero_le _) h
theorem eq_nonS (h : q (.bl false) S) : dEq .non (.str z) S q := ⟨⟨rfl, rfl, Nat.zero_le _, Nat.zero_le _⟩, h⟩
theorem ne_nonS (h : q (.bl true) S) : dNe .non (.str z) S q := ⟨⟨rfl, rfl, Nat.zero_le _, Nat.zero_le _⟩, h⟩
theorem eq_blStr (h : q (.bl false) S) : dEq (.bl b) (.str z) S q := ⟨⟨rfl, rfl, Nat.zero_le _, Nat.zero_le _⟩, h⟩
theorem ne_blStr (h : q (.bl true) S) : dNe (.bl b) (.str z) S q := ⟨⟨rfl, rfl, Nat.zero_le _, Nat.zero_le _⟩, h⟩
end
theorem sput_self {S : Store} {a : Addr} {c : Cell} (h : S a = some c) : sput S a c = S := by
  funext b
  by_cases hb : b = a
  · rw [hb, sput_same, h]
  · rw [sput_ne hb]
theorem sput_back {S : Store} {a : Addr} {c d : Cell} (h : S a = some c) : sput (sput S a d) a c = S := by
  rw [sput_sput]
  funext b
  by_cases hb : b = a
  · rw [hb, sput_same, h]
  · rw [sput_ne hb]
theorem has_enc {α : Type} {g : α → Dt} {L : List (Str × α)} {k : Str} : (kGet (encD g L) (Sum.inr k)).isSome = decide (k ∈ L.map (·.1)) := by
  rw [encD_get, Option.isSome_map]
  cases h : aGet L k with
  | some v =>
    rw [decide_eq_true (List.mem_map.mpr ⟨_, aGet_mem h, rfl⟩)]
    rfl
  | none =>
    rw [decide_eq_false fun z => ?_]
    · rfl
    · obtain ⟨e, he, z⟩ := List.mem_map.mp z
      exact aGet_none.mp h e.2 (by rw [← z]; exact he)
theorem get_enc {α : Type} {g : α → Dt} {L : List (Str × α)} {e : Str × α} (nd : (L.map (·.1)).Nodup) (h : e ∈ L) : kGet (encD g L) (Sum.inr e.1) = some (g e.2) := by
  rw [encD_get, aGet_of_mem nd h]
  rfl
theorem fm_if {α β : Type} {p : α → Prop} [DecidablePred p] {g : α → β} : ∀ {L : List α}, L.filterMap (fun e => if p e then none else some (g e)) = (L.filter fun e => decide (¬ p e)).map g
  | [] => rfl
  | x :: r => by
    by_cases h : p x
    · rw [List.filterMap_cons_none (by rw [if_pos h]), fm_if, List.filter_cons_of_neg (by simp [h])]
    · rw [List.filterMap_cons_some (by rw [if_neg h]), fm_if, List.filter_cons_of_pos (by simp [h])]
      rfl
/-! ## a def with a table of codes -/
theorem dfnC {P : Program} {w : World} {K : PySem.W.Frag} {mg : Str → Option Value} {base : Heap} {x qual : Str} {params : Arguments} {body : List Stmt} {scope : Scope} {dvs : List V} {f Pt : Addr} {fd : FuncData} {N ps : List Str} {k : Nat} {c : DSp} {kws : List (Str × V)} (n : Nat) (F : FunD K x qual params body scope dvs kws f fd) (S : FnScope N ps scope) (hT : ∀ c0, fd.code = .ref c0 → TabB base mg c0 Pt) (len : ∀ ds S q e, c ds S q e → ds.length = ps.length) (hn : N.length = n := by rfl)
    (run : ∀ (c0 : Addr) (A : Around) (outer : List Env) (s : Shared) (H : Hp) (E : XK) (e : DX), TabB base mg c0 Pt → Room k (A.deeper (envOfC qual scope s.heap.objs.size f (.ref c0))) →
      ∃ t, PSs (cxOf (L2.CX P w) P w K mg base N qual scope f (.ref c0) A outer s H E) body (tDS K E e t) ∧ ∀ ds S q, c ds S q e → t { nx := fun _ S => q .non S, rt := q } (startD n ds) S) : FnOk P w K mg base (L2.CX P w) (k + 1) f fd ps (spD K c) := by
  obtain ⟨oc, od, dV, kV, doc, pm, an, cdv, ct, osl, rfl, lk, hcd, _, _⟩ := F.ex
  obtain ⟨c0, rfl⟩ := He.codeIn_ref hcd
  have TB := hT c0 rfl
  refine fn_of lk hcd S (fun vs H Q E h => ?_) fun A outer s H vs Q E hr h => ?_
  · obtain ⟨ds, S, Z, q, e, g, r, l, h, k⟩ := h
    rw [← r.len]
    exact len ds S q e h
  · obtain ⟨ds, S', Z, q, e, g, r, l, h, kk⟩ := h
    obtain ⟨t, p, h2⟩ := run c0 A outer s H E e TB hr
    refine ⟨_, p, _, S', Z, _, ⟨g, ?_, l⟩, h2 ds S' q h, ?_⟩
    · rw [← hn]
      refine start_slots N ds vs r ?_
      rw [← r.len, len ds S' q e h]
      have := congrArg List.length S.pre
      rw [List.length_take] at this
      omega
    · exact ⟨fun σ δ H S g x s q => kk .non .non H S g x rfl q, fun v d H S g x r q => kk v d H S g x r q, fun _ _ _ _ _ _ _ h => h, fun _ _ _ _ _ _ _ h => h⟩
/-! ## sum -/
def lenSum (L : List (Str × Str)) : Int := (L.map fun e => (e.1.length : Int) + (e.2.length : Int)).sum
abbrev lenF : Str → Str → Int := fun a b => (a.length : Int) + (b.length : Int)
theorem preSum_take {L : List (Str × Str)} : ∀ j, j ≤ L.length → preSum (valAt lenF L) j = lenSum (L.take j)
  | 0, _ => rfl
  | j + 1, h => by
    have hj : j < L.length := h
    have e : L[j]? = some L[j] := List.getElem?_eq_getElem hj
    show preSum (valAt lenF L) j + valAt lenF L j = _
    rw [preSum_take j (Nat.le_of_lt hj), take_snoc e]
    unfold lenSum Pr.valAt
    rw [e, List.map_append, List.sum_append]
    simp
theorem preSum_all (L : List (Str × Str)) : preSum (valAt lenF L) L.length = lenSum L := by
  rw [preSum_take _ (Nat.le_refl _), List.take_length]
theorem lenSum_le : ∀ L : List (Str × Str), (∀ e ∈ L, e.1.length ≤ sizeLine ∧ e.2.length ≤ sizeLine) → 0 ≤ lenSum L ∧ lenSum L ≤ L.length * 33554432
  | [], _ => ⟨Int.le_refl _, Int.le_refl _⟩
  | e :: r, h => by
    obtain ⟨a, b⟩ := lenSum_le r fun x hx => h x (List.mem_cons_of_mem _ hx)
    obtain ⟨c, d⟩ := h e List.mem_cons_self
    rw [show sizeLine = 16777216 from rfl] at c d
    have e1 : lenSum (e :: r) = ((e.1.length : Int) + (e.2.length : Int)) + lenSum r := by unfold lenSum; rw [List.map_cons, List.sum_cons]
    rw [e1, List.length_cons]
    omega
@[reducible] def dSumIt (T : List (Addr × Str)) (da : DTE) : DTE := fun δ S q => da δ S fun x S1 => ∃ a L, x = .ref a ∧ S1 a = some (.dic (encD .str L)) ∧ TabX T S1 ∧ L.length ≤ 10000 ∧ q (.int (lenSum L)) S1
theorem repk_strs {K : PySem.W.Frag} {G : Hp} : ∀ {L : List (Str × Str)} {kvs : List (Key × V)}, Repk K G (encD .str L) kvs → kvs = enc V.str L ∧ ∀ e ∈ L, SOk e.1 ∧ SOk e.2
  | [], kvs, h => ⟨h, fun e he => by cases he⟩
  | p :: L, kvs, h => by
    obtain ⟨v, r, rfl, ⟨hk, rv, sv⟩, hr⟩ := h
    obtain ⟨rfl, h2⟩ := repk_strs (L := L) hr
    refine ⟨by rw [rv]; rfl, fun e he => ?_⟩
    rcases List.mem_cons.mp he with rfl | he
    · exact ⟨hk, sv⟩
    · exact h2 e he
def gs2B (scope : Scope) (xa xb : Str) : Bool := decide (scope.kind = .function) && !scope.isCoroutine && (scope.names.all fun y => !decide (y.2 = .cell) && !decide (y.2 = .free)) && decide (scope.names.lookup (".0" : Str) = some NameKind.local) && decide (scope.names.lookup xa = some .local) && decide (scope.names.lookup xb = some .local) && !decide (xa = xb)
theorem gs2_by {env : Env} {scope : Scope} {xa xb : Str} (h : gs2B scope xa xb = true) : GenS2 env scope xa xb := by
  unfold gs2B at h
  simp only [Bool.and_eq_true, Bool.not_eq_true', decide_eq_true_eq, decide_eq_false_iff_not, List.all_eq_true] at h
  obtain ⟨⟨⟨⟨⟨⟨h1, h2⟩, h3⟩, h4⟩, h5⟩, h6⟩, h7⟩ := h
  exact ⟨h1, h2, fun y hy => (h3 y hy).1, h4, h5, h6, h7, fun y hy e => absurd e (h3 y hy).2⟩
theorem de_sumIt {X : Cx} {K : PySem.W.Frag} {E : XK} {e : DX} {da : DTE} {T : List (Addr × Str)} {c P : Addr} {elt ex : Expr} {xa xb : Str} {pa pb pt p pos gpos apos cpos : Pos} {kt : Nat} {scope : Scope} {k : Nat} (hK : X.K = K)
    (hr : Room k X.A) (hg : Gl X "sum") (hm : X.mg "sum" = none) (hb : bootBuiltins "sum" = some (.builtin "sum")) (TB : TabB X.base X.mg c P) (hcode : X.env.code = .ref c) (hmT : (P, X.env.qual ++ "<genexpr>") ∈ T) (huT : ∀ p ∈ T, p.1 = P → p.2 = X.env.qual ++ "<genexpr>")
    (S : X.Ok → GenS2 X.env scope xa xb) (hd : PE X ex (tD K E e da)) (hel : Mod X.K X.mg X.base → EltI X.prog X.w X.base X.env scope xa xb elt (fun a b => a.length ≤ sizeLine ∧ b.length ≤ sizeLine) lenF)
    (hs : ∀ v, genFold (.Call (.Attribute ex "items" apos) [] [] cpos) X.env v = pure v) (hbase : attributeBase ex "items" X.env (eval ex X.env) = eval ex X.env := by rfl) (hline : (apos.endLine == cpos.line) = true := by rfl)
    (he : starEach [.GeneratorExp elt [⟨.Tuple [.Name xa pa, .Name xb pb] kt pt, .Call (.Attribute ex "items" apos) [] [] cpos, [], 0⟩] scope gpos] X.env = (false, eval (.GeneratorExp elt [⟨.Tuple [.Name xa pa, .Name xb pb] kt pt, .Call (.Attribute ex "items" apos) [] [] cpos, [], 0⟩] scope gpos) X.env) :: starEach [] X.env := by rfl) :
    PE X (.Call (.Name "sum" p) [.GeneratorExp elt [⟨.Tuple [.Name xa pa, .Name xb pb] kt pt, .Call (.Attribute ex "items" apos) [] [] cpos, [], 0⟩] scope gpos] [] pos) (tD K E e (dSumIt T da)) := by
  subst hK
  refine PE.imp (pe_sumItN (T := T) hr hg hm hb TB hcode hmT huT S hd hel hs hbase hline he) fun σ H Q h => ?_
  obtain ⟨δ, S, Z, q, t, h, k⟩ := h
  refine ⟨δ, S, Z, _, t, h, fun v x H1 S1 g1 x1 r1 h1 => ?_⟩
  obtain ⟨a, L, rfl, h2, tx, few, hq⟩ := h1
  obtain ⟨o, h3, kvs, rfl, h4⟩ := g1.c a _ h2
  obtain ⟨rfl, ok⟩ := repk_strs h4
  have lens : ∀ e ∈ L, e.1.length ≤ sizeLine ∧ e.2.length ≤ sizeLine := fun e he => ⟨(ok e he).1.len, (ok e he).2.len⟩
  refine ⟨a, L, r1, h3, lens, tabs_of g1 tx, fun j hj => ⟨?_, ?_⟩, fun H2 x2 t2 => ?_⟩
  · have e1 : L[j]? = some L[j] := List.getElem?_eq_getElem hj
    obtain ⟨c, d⟩ := lens _ (List.getElem_mem hj)
    rw [show sizeLine = 16777216 from rfl] at c d
    unfold Pr.valAt InLong
    rw [e1]
    show -(2 ^ 63) ≤ ((L[j].1.length : Int) + (L[j].2.length : Int)) ∧ ((L[j].1.length : Int) + (L[j].2.length : Int)) < 2 ^ 63
    omega
  · rw [show preSum (Pr.valAt lenF L) (j + 1) = lenSum (L.take (j + 1)) from preSum_take _ hj]
    obtain ⟨c, d⟩ := lenSum_le (L.take (j + 1)) fun e he => lens e (List.mem_of_mem_take he)
    have h6 : (L.take (j + 1)).length ≤ L.length := by rw [List.length_take]; omega
    have h7 : L.length ≤ 10000 := few
    generalize lenSum (L.take (j + 1)) = z at c d
    unfold InLong
    omega
  · obtain ⟨g2, e2⟩ := good_tabs g1 tx x2 t2
    rw [preSum_all]
    exact k (.int _) (.int _) H2 S1 g2 (x1.trans e2) rfl hq
end Dn

/-! lambdas kept in a list -/
namespace Dn
open PySem PySem.Spec PyProof.Rows L2 Pr LamX NdefX
/-- what a kept lambda promises, by the deep values of its captured cells -/
abbrev DLp := DS → Store → DK → DX → Prop
def spLD (K : PySem.W.Frag) (c : DLp) : List (Option V) → Hp → VK → XK → Prop := fun ws H Q E => ∃ δ S Z q e, Good K Z H S ∧ Slots K (out H S Z) ws δ ∧ Lk K E e Z (out H S Z) ∧ c δ S q e ∧ Ty K Z H S q Q
section
variable {P : Program} {w : World} {K : PySem.W.Frag} {mg : Str → Option Value} {base : Heap} {k : Nat} {f : Addr} {F : NF} {b : Expr} {N : List Str} {c : DLp}
theorem paN {N : List Str} {F : NF} {f : Addr} {A : Around} {outer : List Env} {s : Shared} {H : Hp} {E : XK} : Passes (L2.CX P w) (ncx (L2.CX P w) P w K mg base N F f A outer s H E) E := passes_call (W := fun cls d _ H => E cls d H) (takes_of rfl rfl rfl rfl) fun _ _ _ _ z => z
theorem lokD (S : NScope N [] N F.scope) (hb : ∀ (pm ctv : Value), bindArgs (PySem.W.kla_fn F.name F.qual F.params b F.scope F.cl pm (.ref F.c) ctv) ⟨[], []⟩ = pure [])
    (db : DX → DTE) (body : ∀ (e : DX) (A : Around) (outer : List Env) (s : Shared) (H : Hp) (E : XK), Room k (A.deeper (envF F f s.heap.objs.size)) → PE (ncx (L2.CX P w) P w K mg base N F f A outer s H E) b (tD K E e (db e))) : LOk P w K mg base (k + 1) f F b N (spLD K fun δ S q e => db e δ S q) := by
  refine lok_of S hb fun A outer s H ws Q E hr hl h => ?_
  obtain ⟨δ, S', Z, q, e, g, sl, lk, h, kk⟩ := h
  refine ⟨_, body e A outer s H E hr, δ, S', Z, q, ⟨g, ?_, lk⟩, h, kk⟩
  unfold startF
  rw [List.map_nil, List.nil_append, List.length_nil, Nat.sub_zero, hl, Nat.sub_self, List.replicate_zero, List.append_nil]
  exact sl
end
section
variable {X : Cx} {K : PySem.W.Frag} {E : XK} {e : DX}
@[reducible] def dLam (T : List (Addr × Str)) (mk : Addr → NF) (b : Expr) : DTE := fun _ S q => TabX T S ∧ ∀ c', q (.lam (mk c') b) S
theorem de_lamV {T : List (Addr × Str)} {c P : Addr} {params : Arguments} {body : Expr} {scope : Scope} {pos : Pos} (TB : TabB X.base X.mg c P) (hcode : X.env.code = .ref c) (hm : (P, X.env.qual ++ "<lambda>") ∈ T) (hu : ∀ p ∈ T, p.1 = P → p.2 = X.env.qual ++ "<lambda>")
    (hdef : defaultsOf params X.env = ([], [])) (hfree : ∀ y ∈ scope.names, y.2 = .free → X.env.scope.names.lookup y.1 = some .cell ∨ X.env.scope.names.lookup y.1 = some .free) :
    PE X (.Lambda params body scope pos) (tD K E e (dLam T (fun c' => ⟨"<lambda>", X.env.qual ++ "<lambda>", params, [], scope, cloFrom X.env.cells scope.names [], c'⟩) body)) := PE.imp (pe_lam TB hcode hm hu hdef hfree) fun σ H Q h => by
  obtain ⟨δ, S, Z, q, t, ⟨tx, h⟩, k⟩ := h
  refine ⟨tabs_of t.good tx, fun f c' H' x' t' nf hf hc => ?_⟩
  obtain ⟨g1, e1⟩ := good_tabs t.good tx x' t'
  have nS : S f = none := t.good.nS nf
  have nZ : Z f = none := t.good.nZ nf
  have still : ∀ b q, H' b = some (CodeO b q) → out H' S Z b = some (CodeO b q) := fun b q hb => by
    refine (out_of ?_ ?_).trans hb
    · cases hs : S b with
      | none => rfl
      | some d =>
        obtain ⟨o, h1, h2⟩ := g1.c b d hs
        rw [hb] at h1
        cases h1
        cases d with
        | tbl q => obtain ⟨ps, z, _⟩ := h2; exact absurd z (codeO_ne ps)
        | lst l => obtain ⟨_, z, _⟩ := h2; cases z
        | dic l => obtain ⟨_, z, _⟩ := h2; cases z
        | dct l => obtain ⟨_, z, _⟩ := h2; cases z
        | lck u l => obtain ⟨_, _, _, z, _⟩ := h2; cases z
        | ins C nm l => obtain ⟨_, _, z, _⟩ := h2; cases z
    · cases hs : Z b with
      | none => rfl
      | some d =>
        obtain ⟨q1, _, q3⟩ := g1.z b d hs
        rw [hb] at q1
        cases q1
        rcases q3 with ⟨vs, z⟩ | ⟨kvs, z⟩ <;> cases z
  exact k (.ref f) (.lam ⟨"<lambda>", X.env.qual ++ "<lambda>", params, [], scope, cloFrom X.env.cells scope.names [], c'⟩ body) H' S g1 e1 ⟨f, rfl, (out_of nS nZ).trans hf, still _ _ hc⟩ (h c')
/-! a comprehension whose test leans on the slots at its begin -/
def tDTI (K : PySem.W.Frag) (ti : DS → DTT) (σ : L2.St) : TT := fun σ2 H Q => ∃ δ δ2 S Z q, Good K Z H S ∧ Slots K (out H S Z) σ δ ∧ Slots K (out H S Z) σ2 δ2 ∧ ti δ δ2 S q ∧ ∀ b H' S', Good K Z H' S' → Ext (out H S Z) (out H' S' Z) → q b S' → Q b H'
theorem lc_runI {it : DTL} {wi : TI} {g : DTG} {ti : DS → DTT} {te : DTE} {vs : List Nat} {qL : List Dt → Store → Prop} {σ : L2.St} {H : Hp} {Q : VK} {δ : DS} {S : Store} {Z : Hp}
    (t : At K E e Z H S σ δ) (h : dLc it g vs (ti δ) te qL δ S)
    (fin : ∀ D accV acc H' S', Z D = none → Good K (upd Z D (.lst accV)) H' S' → Ext (out H S Z) (out H' S' (upd Z D (.lst accV))) → Reps K (out H' S' (upd Z D (.lst accV))) acc accV → qL acc S' → Q (.ref D) H') :
    tLc (tDI K E e it) (tGw K vs g) (tDTI K ti σ) (tD K E0 noX te) vs σ H Q := by
  refine ⟨δ, S, Z, _, t, h, fun l keep H1 S1 J g1 x1 ok h1 => ?_⟩
  obtain ⟨hl, I, h0, hk, hs, hd⟩ := h1
  intro D nD
  have nZ := g1.nZ nD
  have sl1 := t.sl.ext x1
  refine lc_it (n := l.length) (G := fun H => ∃ Z' S, Good K Z' H S ∧ Ext (out H1 S1 Z) (out H S Z') ∧ keep S) (Y := fun i H x H' => J.yld i H x H') (Qd := fun H => Q (.ref D) H)
    ⟨fun i H hi ⟨Z', S, g, x, kp⟩ => ok.go Z' i H S g x kp hi, fun H ⟨Z', S, g, x, kp⟩ => ok.stop Z' H S g x kp, fun i H x H' _ _ y => y⟩
    (fun i H => ∃ S acc accV, Good K (upd Z D (.lst accV)) H S ∧ Ext (out H1 S1 Z) (out H S (upd Z D (.lst accV))) ∧ Reps K (out H S (upd Z D (.lst accV))) acc accV ∧ acc.length ≤ i ∧ I i acc S)
    ⟨S1, [], [], g1.hide nD, by rw [hide_out g1 nD]; exact Ext.refl, rfl, Nat.le_refl _, h0⟩
    (fun i H hi ⟨S, acc, accV, g, x, r, n, q⟩ => ⟨_, S, g, x, hk i acc S hi q⟩) (fun i x H H' hi hh y => ?_)
    (fun H ⟨S, acc, accV, g, x, r, n, q⟩ => fin D accV acc H S nZ g (x1.trans x) r (hd acc S q))
  obtain ⟨S2, acc, accV, g2, x2, r2, n2, q2⟩ := hh
  obtain ⟨d, e1, g3, x3, r3⟩ := ok.yld _ i H S2 x H' g2 x2 (hk i acc S2 (Nat.le_of_lt hi) q2) hi y
  have x23 := x2.trans x3
  refine ⟨d, _, S2, _, _, g3, slots_wipes (sl1.ext x23) vs, r3, hs i d acc S2 e1 q2, fun σ' δ' H4 S4 w4 g4 x4 s4 h4 => ?_⟩
  refine ⟨by rw [w4, lc_run.wipe_wipe], δ, δ', S4, _, _, g4, sl1.ext (x23.trans x4), s4, h4, fun b H5 S5 g5 x5 h5 => ?_⟩
  have x45 := x4.trans x5
  cases b with
  | false => exact iteF ⟨S5, acc, accV, g5, x23.trans x45, Reps.ext (x3.trans x45) _ _ r2, Nat.le_succ_of_le n2, h5⟩
  | true =>
    refine iteT ⟨δ', S5, _, _, ⟨g5, s4.ext x5, lk_no⟩, h5, fun v z H6 S6 g6 x6 r6 h6 => ?_⟩
    have x46 := x45.trans x6
    have r7 := Reps.ext (x3.trans x46) _ _ r2
    refine ⟨accV, g6.at, by rw [← r7.len]; omega, S6, acc ++ [z], accV ++ [v], g6.rehide, ?_, ?_, by rw [List.length_append]; exact Nat.succ_le_succ n2, h6⟩
    · rw [rehide_out (o := .lst accV)]
      exact x23.trans x46
    · rw [rehide_out (o := .lst accV)]
      exact Reps.pair.mpr (Paired.app (Reps.pair.mp r7) (.cons r6 .nil))
@[reducible] def dLcI (it : DTL) (g : DTG) (w : List Nat) (ti : DS → DTT) (te : DTE) : DTE := fun δ S q => dLc it g w (ti δ) te (fun l S' => q (.lst l) S') δ S
theorem lc_frozenI {it : DTL} {g : DTG} {ti : DS → DTT} {te : DTE} {vs : List Nat} {σ : L2.St} {H : Hp} {Q : VK} (h : tD K E e (dLcI it g vs ti te) σ H Q) : tLc (tDI K E e it) (tGw K vs g) (tDTI K ti σ) (tD K E0 noX te) vs σ H Q := by
  obtain ⟨δ, S, Z, q, t, h, k⟩ := h
  refine lc_runI (wi := tDI K E e it) t h fun D accV acc H' S' nz g x r q' => ?_
  refine k _ (.lst acc) _ S' (g.bare nz) (x.trans (bare_ext g nz)) ⟨D, accV, rfl, ?_, Reps.ext (bare_ext g nz) _ _ r⟩ q'
  rw [out_of g.noS nz]
  exact g.at
theorem de_lcI {elt tg iter : Expr} {ifs : List Expr} {scope : Scope} {own : List (Str × Nat)} {pos : Pos} {it : DTL} {g : DTG} {ti : DS → DTT} {te : DTE} (calm : X.calm = true) (hN : X.N.Nodup) (hi : PI X tg iter (tDI K E e it)) (ok : BlkOk X.N X.env.scope scope own)
    (hg : ∀ (s : Shared) (H : Hp) (C : Addr) (cl : List (Str × Addr)) (fp : List Addr), PG (X.blk s H scope (compEnvC scope cl C X.env) fp) tg (tGw K (snds own) g))
    (ht : ∀ (pins : List (Addr × Obj)) (σ : L2.St) (s : Shared) (H : Hp) (C : Addr) (cl : List (Str × Addr)) (fp : List Addr), Inv X pins σ H s → (∀ b ∈ fp, FpOk X pins H b) → PTs (X.blk s H scope (compEnvC scope cl C X.env) fp) ifs (tDTI K ti σ))
    (he : ∀ (s : Shared) (H : Hp) (C : Addr) (cl : List (Str × Addr)) (fp : List Addr), PE (X.blk s H scope (compEnvC scope cl C X.env) fp) elt (tD K E0 noX te)) (hs : ∀ x, foldedSetIterable iter X.env x = pure x := by intro _; rfl) :
    PE X (.ListComp elt [⟨tg, iter, ifs, 0⟩] scope pos) (tD K E e (dLcI it g (snds own) ti te)) := by
  rw [snds_eq] at hg ⊢
  exact PE.imp (pe_lcI calm hN hi ok hg ht he hs) fun σ H Q h => lc_frozenI h
/-- what is known of a lambda's captured cells -/
def CapD (X : Cx) (F : NF) (fr : List Str) (js : List Nat) : Prop := (∀ y ∈ F.scope.names, y.2 = .free → X.env.scope.names.lookup y.1 = some .cell ∨ X.env.scope.names.lookup y.1 = some .free) ∧ F.cl = cloFrom X.env.cells F.scope.names [] ∧ (∀ y ∈ fr, (y, NameKind.free) ∈ F.scope.names) ∧
  js.map (fun j => X.N[j]?) = fr.map some
theorem slotAt_slots {G : Hp} {σ : L2.St} {δ : DS} (h : Slots K G σ δ) (js : List Nat) : Slots K G (js.map (slotAt σ)) (js.map (look δ)) := by
  induction js with
  | nil => exact .nil
  | cons j r ih =>
    refine .cons (fun x hx => ?_) ih
    obtain ⟨v, h1, h2⟩ := h.look hx
    exact ⟨v, slotAt_of h1, h2⟩
/-- the test «told(f) != "X"» of a kept lambda that raises: it is not so -/
@[reducible] def dBad (X : Cx) (K : PySem.W.Frag) (k i : Nat) (CS : Addr) : DS → DTT := fun δ δ2 S q => ∃ F b fr js c, look δ2 i = some (.lam F b) ∧ (CapD X F fr js ∧ ∀ f, LOk X.prog X.w K X.mg X.base k f F b fr (spLD K c)) ∧ c (js.map (look δ)) S (fun _ _ => False) (fun C S' => C = CS ∧ q false S')
theorem ts_bad {pins : List (Addr × Obj)} {σ : L2.St} {s : Shared} {H : Hp} {fp : List Addr} (I : Inv X pins σ H s) (hfp : ∀ b ∈ fp, FpOk X pins H b) {scope : Scope} {cl : List (Str × Addr)} {C : Addr} (hK : X.K = K)
    {x a ee ret bn : Str} {g CS : Addr} {k i : Nat} {pg : Arguments} {sg : Scope} {dV kV doc pm cdv ct oc : Value} {an od : Option Addr} {osl : Array (Option Value)} {Ng : List Str} {j j2 : Nat} {p1 p2 p3 p4 p5 p6 p7 p8 p pb pos pos2 pos3 : Pos}
    (hg : Gl (X.blk s H scope (compEnvC scope cl C X.env) fp) x) (hm : X.mg x = some (.ref g)) (hk : PySem.W.keepIn X.K (.ref g) = true)
    (lk : X.K.lookup g = some ⟨oc, od, .func (PySem.W.fnOf x x pg [.Try [.Return (some (.Call (.Name a p1) [] [] p2)) p3] [.ExceptHandler (some (.Name ee p4)) none [.Return (some (.Constant (.str ret) j p5)) p6] p7] [] [] p8] sg dV kV doc pm an cdv ct), osl⟩) (hcg : PySem.W.codeIn X.K cdv x = true)
    (hb : L2.Binds X.K (PySem.W.fnOf x x pg [.Try [.Return (some (.Call (.Name a p1) [] [] p2)) p3] [.ExceptHandler (some (.Name ee p4)) none [.Return (some (.Constant (.str ret) j p5)) p6] p7] [] [] p8] sg dV kV doc pm an cdv ct) [a] []) (Sg : FnScope Ng [a] sg) (hNg : Ng[0]? = some a) (hva : Vis sg a)
    (hge : sg.names.lookup ee = some .globalImplicit) (hme : X.mg ee = some (.ref CS)) (exm : PySem.W.exmOne K (.ref CS) (.ref CS) = some true) (hde : (ee == ("__debug__" : Str)) = false) (h0 : ∀ f : Addr, (L2.start Ng [V.ref f])[0]? = some (some (V.ref f))) (hr : Room (k + 1) X.A)
    (hN : X.N[i]? = some bn) (hv : Vis (compEnvC scope cl C X.env).scope bn) (hdb : (x == ("__debug__" : Str)) = false := by decide) (hbd : (bn == ("__debug__" : Str)) = false := by decide) (hbc : (bn == ("__classdict__" : Str)) = false := by decide) (hd : (a == ("__debug__" : Str)) = false := by decide) (hcd : (a == ("__classdict__" : Str)) = false := by decide) :
    PTs (X.blk s H scope (compEnvC scope cl C X.env) fp) [.Compare (.Call (.Name x p) [.Name bn pb] [] pos) [.NotEq] [.Constant (.str ret) j2 pos2] pos3] (tDTI K (dBad X K k i CS) σ) := by
  subst hK
  have D := pt_cmpR (pos := pos3) op_ne (pe_toldL (X := X.blk s H scope (compEnvC scope cl C X.env) fp) (CP := CapP X σ) (k := k) (i := i) (g := g) (Ng := Ng) (p := p) (pb := pb) (pos := pos) (capP_ok I hfp) hg hm hk lk hcg hb Sg hNg hva hge hme hde h0 hr hN hv hdb hbd hbc hd hcd) (pe_str (x := ret) (j := j2) (pos := pos2)) (nomark _)
  refine pts_one (PT.imp D fun σ2 H2 Q h => ?_)
  obtain ⟨δ, δ2, S, Z, q, gd, sl, sl2, ⟨F, b, fr, js, c, lf, ⟨⟨c1, c2, c3, c4⟩, L⟩, hc⟩, kk⟩ := h
  obtain ⟨v, hv1, rv⟩ := sl2.look lf
  obtain ⟨f, rfl, hf, hcode⟩ := rv
  refine g_test (g_op ⟨f, F, b, fr, _, _, hv1, ⟨js, c1, c2, c3, c4, rfl⟩, L f, out_le hf, out_le hcode, ?_⟩)
  refine ⟨_, S, Z, _, (fun C' S' => C' = CS ∧ q false S'), gd, slotAt_slots sl js, ?_, hc, fun _ _ _ _ _ _ _ z => z.elim⟩
  intro C' H' S' g' x' hq
  obtain ⟨rfl, hq⟩ := hq
  refine ⟨true, exm, fun _ => ?_, fun z => by cases z⟩
  show rNe (.str ret) (.str ret) H' (fun x H'' => ∃ k, x = .bl k ∧ Q k H'')
  refine g_neS ⟨false, by rw [decide_eq_true rfl]; rfl, ?_⟩
  exact kk false H' S' g' x' hq
end
def freeB (sc scope : Scope) : Bool := scope.names.all fun y => !decide (y.2 = .free) || decide (sc.names.lookup y.1 = some .cell) || decide (sc.names.lookup y.1 = some .free)
theorem free_by {sc scope : Scope} (h : freeB sc scope = true) : ∀ y ∈ scope.names, y.2 = .free → sc.names.lookup y.1 = some .cell ∨ sc.names.lookup y.1 = some .free := fun y hy e => by
  have h := List.all_eq_true.mp h y hy
  simp only [Bool.or_eq_true, Bool.not_eq_true', decide_eq_true_eq, decide_eq_false_iff_not] at h
  rcases h with (z | z) | z
  · exact absurd e z
  · exact .inl z
  · exact .inr z
/-- the parts of a lambda -/
def laB : Expr → Expr
  | .Lambda _ b _ _ => b
  | e => e
def laS (d : Scope) : Expr → Scope
  | .Lambda _ _ s _ => s
  | _ => d
def laP (d : Arguments) : Expr → Arguments
  | .Lambda p _ _ _ => p
  | _ => d
def listE : Stmt → List Expr
  | .Assign _ (.List es _) _ => es
  | _ => []
end Dn

/-! the law's call -/
namespace Dn
open PySem PySem.Spec PyProof.Rows L2 Pr LamX NdefX
theorem lookup_mem {T : List (Addr × Str)} {a : Addr} {q : Str} : T.lookup a = some q → (a, q) ∈ T := by
  induction T with
  | nil => intro h; cases h
  | cons p r ih =>
    intro h
    rw [List.lookup_cons] at h
    split at h
    · rename_i e
      have : a = p.1 := by simpa using e
      cases h
      rw [this]
      exact List.mem_cons_self
    · exact List.mem_cons_of_mem _ (ih h)
theorem mem_lookup {T : List (Addr × Str)} (nd : (T.map (·.1)).Nodup) : ∀ p ∈ T, T.lookup p.1 = some p.2 := by
  induction T with
  | nil => intro p h; cases h
  | cons x r ih =>
    intro p hp
    rw [List.lookup_cons]
    rw [List.map_cons, List.nodup_cons] at nd
    rcases List.mem_cons.mp hp with rfl | hp
    · simp
    · have n : ¬ p.1 = x.1 := fun e => nd.1 (by rw [← e]; exact List.mem_map.mpr ⟨p, hp, rfl⟩)
      have : (p.1 == x.1) = false := by simpa using n
      rw [this]
      exact ih nd.2 p hp
theorem law_start {K : PySem.W.Frag} {T : List (Addr × Str)} {H : Hp} {a : Addr} {ns : List Int} {c : DSp} (nd : (T.map (·.1)).Nodup) (hT : ∀ p ∈ T, H p.1 = some (.tbl #[])) (hS : SqL K H a (ns.map V.int))
    (h : ∀ (S : Store) (q : DK), TabX T S → (∀ S', q (.bl true) S') → c [.scr ns] S q noX) : spD K c [.ref a] H (fun v _ => v = .bl true) (fun _ _ _ => False) := by
  have tx : TabX T (fun b => (T.lookup b).map Cell.tbl) := by
    refine ⟨fun p hp => ?_, fun b q hq => ?_⟩
    · show (T.lookup p.1).map Cell.tbl = _
      rw [mem_lookup nd p hp]
      rfl
    · cases e : T.lookup b with
      | none =>
        rw [show (fun b => (T.lookup b).map Cell.tbl) b = (T.lookup b).map Cell.tbl from rfl, e] at hq
        cases hq
      | some z =>
        rw [show (fun b => (T.lookup b).map Cell.tbl) b = (T.lookup b).map Cell.tbl from rfl, e] at hq
        cases hq
        exact lookup_mem e
  have cells : ∀ b x, (fun b => (T.lookup b).map Cell.tbl) b = some x → ∃ q, x = .tbl q ∧ (b, q) ∈ T := fun b x hx => by
    cases e : T.lookup b with
    | none =>
      rw [show (fun b => (T.lookup b).map Cell.tbl) b = (T.lookup b).map Cell.tbl from rfl, e] at hx
      cases hx
    | some z =>
      rw [show (fun b => (T.lookup b).map Cell.tbl) b = (T.lookup b).map Cell.tbl from rfl, e] at hx
      cases hx
      exact ⟨z, rfl, lookup_mem e⟩
  generalize (fun b => (T.lookup b).map Cell.tbl) = S at tx cells
  refine ⟨[.scr ns], S, fun _ => none, fun v _ => v = .bl true, noX, ⟨fun b o z => (by cases z), fun b x hx => ?_⟩, ?_, lk_no, h S _ tx fun _ => rfl, fun v d H' S' g x r q => ?_⟩
  · obtain ⟨q, rfl, hm⟩ := cells b x hx
    exact ⟨_, hT _ hm, #[], rfl, trivial, fun pos cv z => by cases z⟩
  · refine ⟨.ref a, [], rfl, ⟨a, rfl, ?_⟩, rfl⟩
    have free : ∀ o, H a = some o → (∀ ps, o ≠ .tbl ps) → out H S (fun _ => none) a = some o := fun o ho n => by
      refine (out_of ?_ rfl).trans ho
      cases e : S a with
      | none => rfl
      | some x =>
        obtain ⟨q, rfl, hm⟩ := cells a x e
        have := hT _ hm
        rw [ho] at this
        exact absurd (Option.some.inj this) (n _)
    rcases hS with (z | ⟨o, z⟩) | z
    · exact .inl (.inl (free _ z fun ps e => by cases e))
    · exact .inl (.inr ⟨o, free _ z fun ps e => by cases e⟩)
    · exact .inr z
  · rw [show d = .bl true from q] at r
    exact r
theorem tab_at {K : PySem.W.Frag} {base : Heap} {mg : Str → Option Value} {p : Str × Option Str} {oc : Value} {od : Option Addr} {osl : Array (Option Value)} {fd : FuncData} {c : Addr} (lk : K.lookup (He.fAd K p) = some ⟨oc, od, .func fd, osl⟩) (TB : TabB base mg (He.cT K p).1 (He.cT K p).2) (e : fd.code = .ref c) : TabB base mg c (He.cT K p).2 := by
  have e1 : He.codeOf K p = c := He.codeOf_eq (p := p) lk e
  rw [show (He.cT K p).1 = c from e1] at TB
  exact TB
end Dn

namespace K17
open PySem PySem.Spec PyProof.Rows L2 Pr Dn
def top (i : Nat) : Stmt := PySem.Challenge.pw_pagestack_k17_shelves_that_change_whole.main.body.getD i (.Pass ⟨0, 0, 0, 0⟩)
abbrev s_Change_init : Stmt := inClass (top 5) 0
abbrev s_Shelf_init : Stmt := inClass (top 6) 0
abbrev s_Shelf_open_page : Stmt := inClass (top 6) 1
abbrev s_Shelf_close_page : Stmt := inClass (top 6) 2
abbrev s_Shelf_need : Stmt := inClass (top 6) 3
abbrev s_Shelf_begin : Stmt := inClass (top 6) 4
abbrev s_Shelf_owned : Stmt := inClass (top 6) 5
abbrev s_Shelf_set_row : Stmt := inClass (top 6) 6
abbrev s_Shelf_read_row : Stmt := inClass (top 6) 7
abbrev s_Shelf_after : Stmt := inClass (top 6) 8
abbrev s_Shelf_commit : Stmt := inClass (top 6) 9
abbrev s_Shelf_roll_back : Stmt := inClass (top 6) 10
abbrev s_Shelf_told : Stmt := inClass (top 6) 11
abbrev s_law_dice : Stmt := top 8
abbrev s_law_roll : Stmt := top 9
abbrev s_law_rounds : Stmt := top 10
abbrev s_law_told : Stmt := top 11
abbrev s_law_after : Stmt := top 12
abbrev s_law_kept : Stmt := top 13
abbrev s_law_reads : Stmt := top 14
abbrev s_law : Stmt := top 15
theorem sc_Change_init : FnScope ["self", "page"] ["self", "page"] (defScope s_Change_init) := ⟨rfl, rfl, rfl, by decide +kernel, rfl, by decide +kernel, by decide +kernel⟩
theorem sc_Shelf_init : FnScope ["self"] ["self"] (defScope s_Shelf_init) := ⟨rfl, rfl, rfl, by decide +kernel, rfl, by decide +kernel, by decide +kernel⟩
theorem sc_Shelf_open_page : FnScope ["self", "page"] ["self", "page"] (defScope s_Shelf_open_page) := ⟨rfl, rfl, rfl, by decide +kernel, rfl, by decide +kernel, by decide +kernel⟩
theorem sc_Shelf_close_page : FnScope ["self", "page", "one"] ["self", "page"] (defScope s_Shelf_close_page) := ⟨rfl, rfl, rfl, by decide +kernel, rfl, by decide +kernel, by decide +kernel⟩
theorem sc_Shelf_need : FnScope ["self", "page"] ["self", "page"] (defScope s_Shelf_need) := ⟨rfl, rfl, rfl, by decide +kernel, rfl, by decide +kernel, by decide +kernel⟩
theorem sc_Shelf_begin : FnScope ["self", "page"] ["self", "page"] (defScope s_Shelf_begin) := ⟨rfl, rfl, rfl, by decide +kernel, rfl, by decide +kernel, by decide +kernel⟩
theorem sc_Shelf_owned : FnScope ["self", "page"] ["self", "page"] (defScope s_Shelf_owned) := ⟨rfl, rfl, rfl, by decide +kernel, rfl, by decide +kernel, by decide +kernel⟩
theorem sc_Shelf_set_row : FnScope ["self", "page", "key", "text", "change"] ["self", "page", "key", "text"] (defScope s_Shelf_set_row) := ⟨rfl, rfl, rfl, by decide +kernel, rfl, by decide +kernel, by decide +kernel⟩
theorem sc_Shelf_read_row : FnScope ["self", "page", "key"] ["self", "page", "key"] (defScope s_Shelf_read_row) := ⟨rfl, rfl, rfl, by decide +kernel, rfl, by decide +kernel, by decide +kernel⟩
theorem sc_Shelf_after : FnScope ["self", "change", "found", "key", "text"] ["self", "change"] (defScope s_Shelf_after) := ⟨rfl, rfl, rfl, by decide +kernel, rfl, by decide +kernel, by decide +kernel⟩
theorem sc_Shelf_commit : FnScope ["self", "page", "change", "fresh", "rows", "key", "one"] ["self", "page"] (defScope s_Shelf_commit) := ⟨rfl, rfl, rfl, by decide +kernel, rfl, by decide +kernel, by decide +kernel⟩
theorem sc_Shelf_roll_back : FnScope ["self", "page"] ["self", "page"] (defScope s_Shelf_roll_back) := ⟨rfl, rfl, rfl, by decide +kernel, rfl, by decide +kernel, by decide +kernel⟩
theorem sc_Shelf_told : FnScope ["self", "page", "found"] ["self", "page"] (defScope s_Shelf_told) := ⟨rfl, rfl, rfl, by decide +kernel, rfl, by decide +kernel, by decide +kernel⟩
theorem sc_law_dice : FnScope ["cell"] ["cell"] (defScope s_law_dice) := ⟨rfl, rfl, rfl, by decide +kernel, rfl, by decide +kernel, by decide +kernel⟩
theorem sc_law_roll : FnScope ["dice", "many", "found"] ["dice", "many"] (defScope s_law_roll) := ⟨rfl, rfl, rfl, by decide +kernel, rfl, by decide +kernel, by decide +kernel⟩
theorem sc_law_rounds : FnScope ["script", "most", "cells", "cell"] ["script", "most"] (defScope s_law_rounds) := ⟨rfl, rfl, rfl, by decide +kernel, rfl, by decide +kernel, by decide +kernel⟩
theorem sc_law_told : FnScope ["what"] ["what"] (defScope s_law_told) := ⟨rfl, rfl, rfl, by decide +kernel, rfl, by decide +kernel, by decide +kernel⟩
theorem sc_law_after : FnScope ["rows", "change", "found", "key"] ["rows", "change"] (defScope s_law_after) := ⟨rfl, rfl, rfl, by decide +kernel, rfl, by decide +kernel, by decide +kernel⟩
theorem sc_law_kept : FnScope ["own", "page", "fresh", "rows", "changed", "told", "one", "key"] ["own", "page"] (defScope s_law_kept) := ⟨rfl, rfl, rfl, by decide +kernel, rfl, by decide +kernel, by decide +kernel⟩
theorem sc_law_reads : FnScope ["shelf", "own", "one", "rows", "name"] ["shelf", "own"] (defScope s_law_reads) := ⟨rfl, rfl, rfl, by decide +kernel, rfl, by decide +kernel, by decide +kernel⟩
theorem sc_law : FnScope ["script", "dice", "shelf", "own", "step", "page", "sort", "key", "there", "mine", "good", "text", "rows", "found", "due", "fresh", "bad", "change", "one", "f"] ["script"] (defScope s_law) := ⟨rfl, rfl, rfl, by decide +kernel, rfl, by decide +kernel, by decide +kernel⟩
abbrev sl_Change_init : List Str := ["self", "page"]
abbrev sl_Shelf_init : List Str := ["self"]
abbrev sl_Shelf_open_page : List Str := ["self", "page"]
abbrev sl_Shelf_close_page : List Str := ["self", "page", "one"]
abbrev sl_Shelf_need : List Str := ["self", "page"]
abbrev sl_Shelf_begin : List Str := ["self", "page"]
abbrev sl_Shelf_owned : List Str := ["self", "page"]
abbrev sl_Shelf_set_row : List Str := ["self", "page", "key", "text", "change"]
abbrev sl_Shelf_read_row : List Str := ["self", "page", "key"]
abbrev sl_Shelf_after : List Str := ["self", "change", "found", "key", "text"]
abbrev sl_Shelf_commit : List Str := ["self", "page", "change", "fresh", "rows", "key", "one"]
abbrev sl_Shelf_roll_back : List Str := ["self", "page"]
abbrev sl_Shelf_told : List Str := ["self", "page", "found"]
abbrev sl_law_dice : List Str := ["cell"]
abbrev sl_law_roll : List Str := ["dice", "many", "found"]
abbrev sl_law_rounds : List Str := ["script", "most", "cells", "cell"]
abbrev sl_law_told : List Str := ["what"]
abbrev sl_law_after : List Str := ["rows", "change", "found", "key"]
abbrev sl_law_kept : List Str := ["own", "page", "fresh", "rows", "changed", "told", "one", "key"]
abbrev sl_law_reads : List Str := ["shelf", "own", "one", "rows", "name"]
abbrev sl_law : List Str := ["script", "dice", "shelf", "own", "step", "page", "sort", "key", "there", "mine", "good", "text", "rows", "found", "due", "fresh", "bad", "change", "one", "f"]
def d_Change_init : He.DefD := ⟨("Change", some "__init__"), "__init__", "Change.__init__", defArgs s_Change_init, defBody s_Change_init, defScope s_Change_init, [], []⟩
def d_Shelf_init : He.DefD := ⟨("Shelf", some "__init__"), "__init__", "Shelf.__init__", defArgs s_Shelf_init, defBody s_Shelf_init, defScope s_Shelf_init, [], []⟩
def d_Shelf_open_page : He.DefD := ⟨("Shelf", some "open_page"), "open_page", "Shelf.open_page", defArgs s_Shelf_open_page, defBody s_Shelf_open_page, defScope s_Shelf_open_page, [], []⟩
def d_Shelf_close_page : He.DefD := ⟨("Shelf", some "close_page"), "close_page", "Shelf.close_page", defArgs s_Shelf_close_page, defBody s_Shelf_close_page, defScope s_Shelf_close_page, [], []⟩
def d_Shelf_need : He.DefD := ⟨("Shelf", some "need"), "need", "Shelf.need", defArgs s_Shelf_need, defBody s_Shelf_need, defScope s_Shelf_need, [], []⟩
def d_Shelf_begin : He.DefD := ⟨("Shelf", some "begin"), "begin", "Shelf.begin", defArgs s_Shelf_begin, defBody s_Shelf_begin, defScope s_Shelf_begin, [], []⟩
def d_Shelf_owned : He.DefD := ⟨("Shelf", some "owned"), "owned", "Shelf.owned", defArgs s_Shelf_owned, defBody s_Shelf_owned, defScope s_Shelf_owned, [], []⟩
def d_Shelf_set_row : He.DefD := ⟨("Shelf", some "set_row"), "set_row", "Shelf.set_row", defArgs s_Shelf_set_row, defBody s_Shelf_set_row, defScope s_Shelf_set_row, [], []⟩
def d_Shelf_read_row : He.DefD := ⟨("Shelf", some "read_row"), "read_row", "Shelf.read_row", defArgs s_Shelf_read_row, defBody s_Shelf_read_row, defScope s_Shelf_read_row, [], []⟩
def d_Shelf_after : He.DefD := ⟨("Shelf", some "after"), "after", "Shelf.after", defArgs s_Shelf_after, defBody s_Shelf_after, defScope s_Shelf_after, [], []⟩
def d_Shelf_commit : He.DefD := ⟨("Shelf", some "commit"), "commit", "Shelf.commit", defArgs s_Shelf_commit, defBody s_Shelf_commit, defScope s_Shelf_commit, [], []⟩
def d_Shelf_roll_back : He.DefD := ⟨("Shelf", some "roll_back"), "roll_back", "Shelf.roll_back", defArgs s_Shelf_roll_back, defBody s_Shelf_roll_back, defScope s_Shelf_roll_back, [], []⟩
def d_Shelf_told : He.DefD := ⟨("Shelf", some "told"), "told", "Shelf.told", defArgs s_Shelf_told, defBody s_Shelf_told, defScope s_Shelf_told, [], []⟩
def d_law_dice : He.DefD := ⟨("_law_dice", none), "_law_dice", "_law_dice", defArgs s_law_dice, defBody s_law_dice, defScope s_law_dice, [], []⟩
def d_law_roll : He.DefD := ⟨("_law_roll", none), "_law_roll", "_law_roll", defArgs s_law_roll, defBody s_law_roll, defScope s_law_roll, [], []⟩
def d_law_rounds : He.DefD := ⟨("_law_rounds", none), "_law_rounds", "_law_rounds", defArgs s_law_rounds, defBody s_law_rounds, defScope s_law_rounds, [], []⟩
def d_law_told : He.DefD := ⟨("_law_told", none), "_law_told", "_law_told", defArgs s_law_told, defBody s_law_told, defScope s_law_told, [], []⟩
def d_law_after : He.DefD := ⟨("_law_after", none), "_law_after", "_law_after", defArgs s_law_after, defBody s_law_after, defScope s_law_after, [], []⟩
def d_law_kept : He.DefD := ⟨("_law_kept", none), "_law_kept", "_law_kept", defArgs s_law_kept, defBody s_law_kept, defScope s_law_kept, [], []⟩
def d_law_reads : He.DefD := ⟨("_law_reads", none), "_law_reads", "_law_reads", defArgs s_law_reads, defBody s_law_reads, defScope s_law_reads, [], []⟩
def d_law : He.DefD := ⟨("law", none), "law", "law", defArgs s_law, defBody s_law, defScope s_law, [], []⟩
def fn : List He.DefD := [d_Change_init, d_Shelf_init, d_Shelf_open_page, d_Shelf_close_page, d_Shelf_need, d_Shelf_begin, d_Shelf_owned, d_Shelf_set_row, d_Shelf_read_row, d_Shelf_after, d_Shelf_commit, d_Shelf_roll_back, d_Shelf_told, d_law_dice, d_law_roll, d_law_rounds, d_law_told, d_law_after, d_law_kept, d_law_reads, d_law]
def fa : List He.Fa := [.glo "PageError", .glo "StoreError", .glo "Change", .glo "Shelf", .glo "_law_dice", .glo "_law_roll", .glo "_law_rounds", .glo "_law_told", .glo "_law_after", .glo "_law_kept", .glo "_law_reads", .glo "law", .int "MOST_KEPT" (500), .free "isinstance", .free "str", .free "len", .free "dict", .free "sorted", .free "sum", .free "tuple", .free "int", .free "abs", .free "list", .free "range", .exc "PageError", .keep "PageError", .exc "StoreError", .keep "StoreError", .cls "Change", .noat "Change" "page", .noat "Change" "rows", .mkr "Change", .cls "Shelf", .noat "Shelf" "rows", .noat "Shelf" "change", .noat "Shelf" "listening", .noat "Shelf" "waiting", .mkr "Shelf", .meth "Shelf" "open_page", .meth "Shelf" "close_page", .meth "Shelf" "need", .meth "Shelf" "begin", .meth "Shelf" "owned", .meth "Shelf" "set_row", .meth "Shelf" "read_row", .meth "Shelf" "after", .meth "Shelf" "commit", .meth "Shelf" "roll_back", .meth "Shelf" "told", .exm "StoreError" "StoreError" true]
def tf : List He.Defn := [("law", none), ("Shelf", some "commit")]
def ts : List He.Tab := []
def exB : PySem.W.Frag → Bool := fun K => decide ((He.cT K ("law", none)).2 ≠ (He.cT K ("Shelf", some "commit")).2)
abbrev R : PySem.W.OpenRow := PySem.W.OpenLaw.row PySem.Challenge.rw_pagestack_k17_shelves_that_change_whole
abbrev hk : PySem.W.Hook := He.hookX 6 fa fn ts tf exB
def ob (s : PySem.W.SharedT) : He.AlX := He.obsX 6 fa fn ts tf exB (HandSHeadRun.getT s)
theorem ob_eq (s : PySem.W.SharedT) : ob s = hk.obs s.abs := He.obsX_eq (HandSHeadRun.getT_eq s)
def looseN : List PySem.Str := ["PageError", "StoreError", "MOST_KEPT", "Change", "Shelf", "_law_dice", "_law_roll", "_law_rounds", "_law_told", "_law_after", "_law_kept", "_law_reads"]
theorem run (w : World) : HandSHeadRun.RunEq R (PySem.W.view R.prog [15]) hk ob 20000 looseN w := by
  intro os
  kernel_rfl
structure Tx (K : PySem.W.Frag) (mg : Str → Option Value) : Prop where
  g_PageError : mg "PageError" = some (.ref (He.ga K "PageError"))
  g_StoreError : mg "StoreError" = some (.ref (He.ga K "StoreError"))
  g_Change : mg "Change" = some (.ref (He.ga K "Change"))
  g_Shelf : mg "Shelf" = some (.ref (He.ga K "Shelf"))
  g__law_dice : mg "_law_dice" = some (.ref (He.ga K "_law_dice"))
  g__law_roll : mg "_law_roll" = some (.ref (He.ga K "_law_roll"))
  g__law_rounds : mg "_law_rounds" = some (.ref (He.ga K "_law_rounds"))
  g__law_told : mg "_law_told" = some (.ref (He.ga K "_law_told"))
  g__law_after : mg "_law_after" = some (.ref (He.ga K "_law_after"))
  g__law_kept : mg "_law_kept" = some (.ref (He.ga K "_law_kept"))
  g__law_reads : mg "_law_reads" = some (.ref (He.ga K "_law_reads"))
  g_law : mg "law" = some (.ref (He.ga K "law"))
  g_MOST_KEPT : ∃ u, mg "MOST_KEPT" = some u ∧ RelV (.int (500)) u
  b_isinstance : mg "isinstance" = none
  b_str : mg "str" = none
  b_len : mg "len" = none
  b_dict : mg "dict" = none
  b_sorted : mg "sorted" = none
  b_sum : mg "sum" = none
  b_tuple : mg "tuple" = none
  b_int : mg "int" = none
  b_abs : mg "abs" = none
  b_list : mg "list" = none
  b_range : mg "range" = none
  x_PageError : PySem.W.excIn K (He.ga K "PageError") He.veBase "ValueError.__new__" = true ∧ PySem.W.keepIn K (.ref (He.ga K "PageError")) = true ∧ PySem.W.subIn K (.ref (He.ga K "PageError")) (.type "BaseException") = some true ∧ PySem.W.typeIn K (.ref (He.ga K "PageError")) = some (.type "type")
  x_StoreError : PySem.W.excIn K (He.ga K "StoreError") He.veBase "ValueError.__new__" = true ∧ PySem.W.keepIn K (.ref (He.ga K "StoreError")) = true ∧ PySem.W.subIn K (.ref (He.ga K "StoreError")) (.type "BaseException") = some true ∧ PySem.W.typeIn K (.ref (He.ga K "StoreError")) = some (.type "type")
  cl_Change : Cls K (He.ga K "Change")
  no_Change_page : NoAttr K (He.ga K "Change") "page"
  no_Change_rows : NoAttr K (He.ga K "Change") "rows"
  mk_Change : Mk K (He.ga K "Change") (He.ma K (He.ga K "Change") "__init__")
  cl_Shelf : Cls K (He.ga K "Shelf")
  no_Shelf_rows : NoAttr K (He.ga K "Shelf") "rows"
  no_Shelf_change : NoAttr K (He.ga K "Shelf") "change"
  no_Shelf_listening : NoAttr K (He.ga K "Shelf") "listening"
  no_Shelf_waiting : NoAttr K (He.ga K "Shelf") "waiting"
  mk_Shelf : Mk K (He.ga K "Shelf") (He.ma K (He.ga K "Shelf") "__init__")
  me_Shelf_open_page : Meth K (He.ga K "Shelf") "open_page" (He.ma K (He.ga K "Shelf") "open_page")
  me_Shelf_close_page : Meth K (He.ga K "Shelf") "close_page" (He.ma K (He.ga K "Shelf") "close_page")
  me_Shelf_need : Meth K (He.ga K "Shelf") "need" (He.ma K (He.ga K "Shelf") "need")
  me_Shelf_begin : Meth K (He.ga K "Shelf") "begin" (He.ma K (He.ga K "Shelf") "begin")
  me_Shelf_owned : Meth K (He.ga K "Shelf") "owned" (He.ma K (He.ga K "Shelf") "owned")
  me_Shelf_set_row : Meth K (He.ga K "Shelf") "set_row" (He.ma K (He.ga K "Shelf") "set_row")
  me_Shelf_read_row : Meth K (He.ga K "Shelf") "read_row" (He.ma K (He.ga K "Shelf") "read_row")
  me_Shelf_after : Meth K (He.ga K "Shelf") "after" (He.ma K (He.ga K "Shelf") "after")
  me_Shelf_commit : Meth K (He.ga K "Shelf") "commit" (He.ma K (He.ga K "Shelf") "commit")
  me_Shelf_roll_back : Meth K (He.ga K "Shelf") "roll_back" (He.ma K (He.ga K "Shelf") "roll_back")
  me_Shelf_told : Meth K (He.ga K "Shelf") "told" (He.ma K (He.ga K "Shelf") "told")
  e_StoreError_StoreError : PySem.W.exmOne K (.ref (He.ga K "StoreError")) (.ref (He.ga K "StoreError")) = some true
theorem tx_of {K : PySem.W.Frag} {h : Heap} {mg : Str → Option Value} (X : K.In h) (G : h.Ns mainGlobals mg) (c : He.SaysD fa fn K) (ex : exB K = true) : Tx K mg := by
  exact {
    g_PageError := He.glo_ok X G (c.fact 0 (f := .glo "PageError") rfl)
    g_StoreError := He.glo_ok X G (c.fact 1 (f := .glo "StoreError") rfl)
    g_Change := He.glo_ok X G (c.fact 2 (f := .glo "Change") rfl)
    g_Shelf := He.glo_ok X G (c.fact 3 (f := .glo "Shelf") rfl)
    g__law_dice := He.glo_ok X G (c.fact 4 (f := .glo "_law_dice") rfl)
    g__law_roll := He.glo_ok X G (c.fact 5 (f := .glo "_law_roll") rfl)
    g__law_rounds := He.glo_ok X G (c.fact 6 (f := .glo "_law_rounds") rfl)
    g__law_told := He.glo_ok X G (c.fact 7 (f := .glo "_law_told") rfl)
    g__law_after := He.glo_ok X G (c.fact 8 (f := .glo "_law_after") rfl)
    g__law_kept := He.glo_ok X G (c.fact 9 (f := .glo "_law_kept") rfl)
    g__law_reads := He.glo_ok X G (c.fact 10 (f := .glo "_law_reads") rfl)
    g_law := He.glo_ok X G (c.fact 11 (f := .glo "law") rfl)
    g_MOST_KEPT := let ⟨t, e⟩ := He.int_ok X G (c.fact 12 (f := .int "MOST_KEPT" (500)) rfl); ⟨_, e, t, rfl⟩
    b_isinstance := He.free_ok X G (c.fact 13 (f := .free "isinstance") rfl)
    b_str := He.free_ok X G (c.fact 14 (f := .free "str") rfl)
    b_len := He.free_ok X G (c.fact 15 (f := .free "len") rfl)
    b_dict := He.free_ok X G (c.fact 16 (f := .free "dict") rfl)
    b_sorted := He.free_ok X G (c.fact 17 (f := .free "sorted") rfl)
    b_sum := He.free_ok X G (c.fact 18 (f := .free "sum") rfl)
    b_tuple := He.free_ok X G (c.fact 19 (f := .free "tuple") rfl)
    b_int := He.free_ok X G (c.fact 20 (f := .free "int") rfl)
    b_abs := He.free_ok X G (c.fact 21 (f := .free "abs") rfl)
    b_list := He.free_ok X G (c.fact 22 (f := .free "list") rfl)
    b_range := He.free_ok X G (c.fact 23 (f := .free "range") rfl)
    x_PageError := He.exc_ok (c.fact 24 (f := .exc "PageError") rfl)
    x_StoreError := He.exc_ok (c.fact 26 (f := .exc "StoreError") rfl)
    cl_Change := He.cls_ok (c.fact 28 (f := .cls "Change") rfl)
    no_Change_page := He.noat_ok (c.fact 29 (f := .noat "Change" "page") rfl)
    no_Change_rows := He.noat_ok (c.fact 30 (f := .noat "Change" "rows") rfl)
    mk_Change := He.mkr_ok (c.fact 31 (f := .mkr "Change") rfl)
    cl_Shelf := He.cls_ok (c.fact 32 (f := .cls "Shelf") rfl)
    no_Shelf_rows := He.noat_ok (c.fact 33 (f := .noat "Shelf" "rows") rfl)
    no_Shelf_change := He.noat_ok (c.fact 34 (f := .noat "Shelf" "change") rfl)
    no_Shelf_listening := He.noat_ok (c.fact 35 (f := .noat "Shelf" "listening") rfl)
    no_Shelf_waiting := He.noat_ok (c.fact 36 (f := .noat "Shelf" "waiting") rfl)
    mk_Shelf := He.mkr_ok (c.fact 37 (f := .mkr "Shelf") rfl)
    me_Shelf_open_page := He.meth_ok (c.fact 38 (f := .meth "Shelf" "open_page") rfl)
    me_Shelf_close_page := He.meth_ok (c.fact 39 (f := .meth "Shelf" "close_page") rfl)
    me_Shelf_need := He.meth_ok (c.fact 40 (f := .meth "Shelf" "need") rfl)
    me_Shelf_begin := He.meth_ok (c.fact 41 (f := .meth "Shelf" "begin") rfl)
    me_Shelf_owned := He.meth_ok (c.fact 42 (f := .meth "Shelf" "owned") rfl)
    me_Shelf_set_row := He.meth_ok (c.fact 43 (f := .meth "Shelf" "set_row") rfl)
    me_Shelf_read_row := He.meth_ok (c.fact 44 (f := .meth "Shelf" "read_row") rfl)
    me_Shelf_after := He.meth_ok (c.fact 45 (f := .meth "Shelf" "after") rfl)
    me_Shelf_commit := He.meth_ok (c.fact 46 (f := .meth "Shelf" "commit") rfl)
    me_Shelf_roll_back := He.meth_ok (c.fact 47 (f := .meth "Shelf" "roll_back") rfl)
    me_Shelf_told := He.meth_ok (c.fact 48 (f := .meth "Shelf" "told") rfl)
    e_StoreError_StoreError := He.exm_ok (c.fact 49 (f := .exm "StoreError" "StoreError" true) rfl)
  }
def nm_Change : List Str := ["page", "rows"]
theorem fd_Change_page {K : PySem.W.Frag} {mg : Str → Option Value} (T : Tx K mg) : Dn.FldI K (He.ga K "Change") nm_Change "page" 0 := ⟨T.cl_Change, T.no_Change_page, by decide +kernel, rfl, by decide⟩
theorem fd_Change_rows {K : PySem.W.Frag} {mg : Str → Option Value} (T : Tx K mg) : Dn.FldI K (He.ga K "Change") nm_Change "rows" 1 := ⟨T.cl_Change, T.no_Change_rows, by decide +kernel, rfl, by decide⟩
def nm_Shelf : List Str := ["rows", "change", "listening", "waiting"]
theorem fd_Shelf_rows {K : PySem.W.Frag} {mg : Str → Option Value} (T : Tx K mg) : Dn.FldI K (He.ga K "Shelf") nm_Shelf "rows" 0 := ⟨T.cl_Shelf, T.no_Shelf_rows, by decide +kernel, rfl, by decide⟩
theorem fd_Shelf_change {K : PySem.W.Frag} {mg : Str → Option Value} (T : Tx K mg) : Dn.FldI K (He.ga K "Shelf") nm_Shelf "change" 1 := ⟨T.cl_Shelf, T.no_Shelf_change, by decide +kernel, rfl, by decide⟩
theorem fd_Shelf_listening {K : PySem.W.Frag} {mg : Str → Option Value} (T : Tx K mg) : Dn.FldI K (He.ga K "Shelf") nm_Shelf "listening" 2 := ⟨T.cl_Shelf, T.no_Shelf_listening, by decide +kernel, rfl, by decide⟩
theorem fd_Shelf_waiting {K : PySem.W.Frag} {mg : Str → Option Value} (T : Tx K mg) : Dn.FldI K (He.ga K "Shelf") nm_Shelf "waiting" 3 := ⟨T.cl_Shelf, T.no_Shelf_waiting, by decide +kernel, rfl, by decide⟩
end K17


open PySem PySem.Spec PyProof.Rows L2 Pr Dn

/-! steps over deep values -/
local macro_rules | `(tactic| walk_at "w") => `(tactic| with_reducible conv => whnf)
local macro_rules | `(tactic| walk_at "ne") => `(tactic| first
  | with_reducible assumption
  | exact Ne.symm (by with_reducible assumption)
  | exact ne_free (by with_reducible assumption) (by with_reducible assumption)
  | exact Ne.symm (ne_free (by with_reducible assumption) (by with_reducible assumption))
  | exact ne_cell (by with_reducible assumption) (by with_reducible assumption) (fun z => Cell.noConfusion z))
local macro_rules | `(tactic| walk_at "st") => `(tactic| first
  | with_reducible assumption
  | ((with_reducible refine Eq.trans sput_same ?_); rfl)
  | ((with_reducible refine Eq.trans (sput_ne ?_) ?_); (focus (walk_at "ne")); (walk_at "st"))
  | ((with_reducible refine Eq.trans (sdel_ne ?_) ?_); (focus (walk_at "ne")); (walk_at "st")))
local macro_rules | `(tactic| walk_at "su") => `(tactic| ((try dsimp only); walk_at "st"))
local macro_rules | `(tactic| walk_at "ar") => `(tactic| first | with_reducible assumption | omega | exact And.intro (by omega) (by omega) | exact ⟨by omega, by omega, by omega⟩ | exact Or.inr ⟨by omega, by omega⟩ | exact Or.inl ⟨by omega, by omega⟩ | decide)
local macro_rules | `(tactic| walk_at "sz") => `(tactic| first | with_reducible assumption | (refine szD ?_; first | (simp only [List.length_map, List.length_append, List.length_cons, List.length_nil, Dn.encD_len]; omega) | (simp; done)))
local macro_rules | `(tactic| walk_at "q") => `(tactic| first
  | ((with_reducible show ∃ c, sput _ _ _ _ = some c ∧ _); refine ⟨_, by walk_at "st", ?_⟩)
  | ((with_reducible show ∃ c, (_ : Store) _ = some c ∧ _); refine ⟨_, by walk_at "st", ?_⟩)
  | ((with_reducible show ∃ l, _ = some (Cell.ins _ _ l) ∧ _); refine ⟨_, by walk_at "st", ?_⟩)
  | ((with_reducible show ∃ l, _ = some (Cell.lst l) ∧ _); refine ⟨_, by walk_at "st", ?_⟩)
  | ((with_reducible show ∃ l, _ = some (Cell.dic l) ∧ _); refine ⟨_, by walk_at "st", ?_⟩)
  | ((with_reducible show ∃ l, (_ = some (Cell.dic l) ∨ _) ∧ _); refine ⟨_, Or.inl (by walk_at "st"), ?_⟩)
  | ((with_reducible show ∃ l, (_ = some (Cell.dic l) ∨ _) ∧ _); refine ⟨_, Or.inr ⟨_, by walk_at "st"⟩, ?_⟩)
  | ((with_reducible show ∃ u l, _ = some (Cell.lck u l) ∧ _); refine ⟨_, _, by walk_at "st", ?_⟩)
  | ((with_reducible show ∃ k, Dt.bl _ = Dt.bl k ∧ _); refine ⟨_, rfl, ?_⟩)
  | with_reducible refine eq_strS ?_ | with_reducible refine ne_strS ?_ | with_reducible refine eq_blS ?_ | with_reducible refine ne_blS ?_ | with_reducible refine eq_nonS ?_ | with_reducible refine ne_nonS ?_ | with_reducible refine eq_blStr ?_ | with_reducible refine ne_blStr ?_
  | with_reducible refine eq_int ?_ | with_reducible refine eq_str ?_ | with_reducible refine eq_bl ?_ | with_reducible refine ne_int ?_ | with_reducible refine ne_str ?_ | with_reducible refine ne_bl ?_
  | ((with_reducible show ∃ j, ixN _ _ = some j ∧ _); refine ⟨_, rfl, ?_⟩)
  | ((with_reducible show dAtN (List.set _ _ _) _ _); dsimp only [List.set, Int.reduceToNat])
  | with_reducible refine ift_nt ?_ | with_reducible refine ift_nf ?_
  | ((with_reducible show dLc _ _ _ _ _ _ _ _); unfold dLc)
  | ((with_reducible show dFor _ _ _ _ _ _); unfold dFor)
  | ((with_reducible show (_ < sizeLine) ∧ _); refine And.intro ?_ ?_; (focus (walk_at "sz")))
  | ((with_reducible show (_ ≤ sizeLine) ∧ _); refine And.intro ?_ ?_; (focus (refine szl ?_; first | (simp only [List.length_map, List.length_append, List.length_cons, List.length_nil, Dn.encD_len]; omega) | (simp; done))))
  | ((with_reducible show ∃ I : Nat → List Dt → Store → Prop, _); refine lc_go ?_)
  | ((with_reducible show ∃ I : Nat → DS → Store → Prop, _); refine for_go ?_)
  | ((with_reducible show ∃ b, kitB _ _ = some b ∧ _); refine ⟨_, rfl, ?_⟩)
  | ((with_reducible show dAtN (List.set _ _ _) _ _); dsimp only [List.set, Int.reduceToNat])
  | ((with_reducible show dLc _ _ _ _ _ _ _ _); unfold dLc)
  | ((with_reducible show dFor _ _ _ _ _ _); unfold dFor)
  | ((with_reducible show (_ < sizeLine) ∧ _); refine ⟨by walk_at "sz", lc_go ?_⟩)
  | ((with_reducible show ∃ I : Nat → DS → Store → Prop, (_ ∧ (∀ i δ S, i ≤ _ → _ → _) ∧ (∀ i d δ S, _ → _ → _) ∧ (∀ δ S, _ → _))); refine for_go ?_)
  | ((with_reducible refine iftN_f ?_ ?_); (focus decide)) | ((with_reducible refine iftN_t ?_ ?_); (focus decide))
  | ((with_reducible show _ ∧ _); refine ⟨by first | exact trivial | with_reducible exact rfl | exact ⟨rfl, rfl⟩ | walk_at "st" | walk_at "ar", ?_⟩))
local macro_rules | `(tactic| walk_at "go") => `(tactic| ((walk_at "w"); repeat ((walk_at "q"); (walk_at "w"))))
local macro_rules | `(tactic| walk_at "a") => `(tactic| first
  | with_reducible refine g_seq ?_)
open K17
open PySem PySem.Spec PyProof.Rows L2 Pr Dn

namespace K17
section
variable {P : Program} {w : World} {K : PySem.W.Frag} {mg : Str → Option Value} {base : Heap}
theorem ok_roll (T : Tx K mg) {f : Addr} {fd : FuncData} (F : FunD K "_law_roll" "_law_roll" (defArgs s_law_roll) (defBody s_law_roll) (defScope s_law_roll) [] [] f fd) : FnOk P w K mg base (L2.CX P w) 1 f fd ["dice", "many"] (spD K cRoll) := by
  refine dfn 3 F sc_law_roll (fun ds S q e h => ?_) rfl (fun cdv A outer s H E e hr => ⟨_, (dss_cons (ds_if (PW.pt (dt_or (dt_cmp (od_eq rfl (hU_of hr)) (de_ixC (n := 2) rfl (dv (pv 0))) de_int) (pw_or1 (PW.pt (dt_and (dt_cmp (od_eq rfl (hU_of hr)) (de_ixC (n := 2) rfl (dv (pv 0))) de_int) (pw_and1 (dt_cmp od_gt (de_ixC (n := 0) rfl (dv (pv 0))) de_int))))))) (dss_cons (ds_set (i := 2) sc_law_roll.nd rfl (Or.inl rfl) (de_op od_mod (de_callTy cd_int (by rfl) T.b_int (by decide +kernel) (da_cons (de_ixC (n := 0) rfl (dv (pv 0))) da_nil)) (dv (pv 1))))
  (dss_cons (ds_asg (de_op od_fdiv (de_ixC (n := 0) rfl (dv (pv 0))) (dv (pv 1))) (dg_subL (dv (pv 0)) de_int))
  (dss_one (ds_ret (dv (pv 2)))))) dss_nil)
  (dss_cons (ds_asg de_int (dg_subL (dv (pv 0)) de_int))
  (dss_cons (ds_if (dt_cmp od_gt (dv (pv 1)) de_int) (dss_one ds_never) dss_nil)
  (dss_cons (ds_asg (de_op od_mod (de_callTy cd_int (by rfl) T.b_int (by decide +kernel) (da_cons (de_op (od_add rfl) (de_op (od_add rfl) (de_op od_mul (de_ixC (n := 0) rfl (dv (pv 0))) de_int) (de_op od_mul (de_ixC (n := 1) rfl (dv (pv 0))) de_int)) de_int) da_nil)) de_int) (dg_subL (dv (pv 0)) de_int))
  (dss_cons (ds_asg (de_op (od_add rfl) (de_ixC (n := 1) rfl (dv (pv 0))) de_int) (dg_subL (dv (pv 0)) de_int))
  (dss_one (ds_ret (de_op od_mod (de_callTy cd_int (by rfl) T.b_int (by decide +kernel) (da_cons (de_op od_fdiv (de_ixC (n := 0) rfl (dv (pv 0))) de_int) da_nil)) (dv (pv 1)))))))))), fun ds S q h => ?_⟩)
  · obtain ⟨d, x, n, k, m, rfl, _⟩ := h
    rfl
  · obtain ⟨d, x, n, k, m, rfl, hd, hm, kk⟩ := h
    have fin : ∀ (y : Int) (x' n' k' : Int), q (.int (y % m)) (sput S d (.lst [.int x', .int n', .int k'])) := fun y x' n' k' => kk _ _ _ _ (Int.emod_nonneg _ (by omega)) (Int.emod_lt_of_pos _ hm.1)
    walk_at "go"
    refine ift (fun h => ?_) (fun h => ?_)
    · walk_at "go"
      exact fin _ _ _ _
    · walk_at "go"
      refine ift (fun h => ?_) (fun h => ?_)
      · walk_at "go"
        refine ift (fun h => ?_) (fun h => ?_)
        · walk_at "go"
          exact fin _ _ _ _
        · walk_at "go"
          refine ift_pf (by omega) ?_
          walk_at "go"
          simp only [sput_sput]
          exact fin _ _ _ _
      · walk_at "go"
        refine ift_pf (by omega) ?_
        walk_at "go"
        simp only [sput_sput]
        exact fin _ _ _ _
theorem ok_dice (T : Tx K mg) {f : Addr} {fd : FuncData} (F : FunD K "_law_dice" "_law_dice" (defArgs s_law_dice) (defBody s_law_dice) (defScope s_law_dice) [] [] f fd) : FnOk P w K mg base (L2.CX P w) 1 f fd ["cell"] (spD K cDice) := by
  refine dfn 1 F sc_law_dice (fun ds S q e h => ?_) rfl (fun cdv A outer s H E e hr => ⟨_, (dss_cons (ds_if (dt_chain od_lt od_lt (de_op od_sub de_int de_int) (dv (pv 0)) de_int) (dss_one (ds_ret (de_lstO (da_cons (de_callB cd_abs (by rfl) T.b_abs (by decide +kernel) (da_cons (dv (pv 0)) da_nil)) (da_cons de_int (da_cons de_int da_nil)))))) dss_nil)
  (dss_one (ds_ret (de_lstO (da_cons (dv (pv 0)) (da_cons (de_op (od_add rfl) de_int (de_op od_mod (de_callTy cd_int (by rfl) T.b_int (by decide +kernel) (da_cons (dv (pv 0)) da_nil)) de_int)) (da_cons (de_callTy cd_int (by rfl) T.b_int (by decide +kernel) (da_cons (de_cmp od_ge (dv (pv 0)) (de_op od_pow de_int de_int)) da_nil)) da_nil))))))), fun ds S q h => ?_⟩)
  · obtain ⟨c, rfl, _⟩ := h
    rfl
  · obtain ⟨c, rfl, kk⟩ := h
    walk_at "go"
    refine ift (fun h1 => ?_) (fun h1 => ?_)
    · walk_at "go"
      refine ift (fun h2 => ?_) (fun h2 => ?_)
      · walk_at "go"
        exact fun p hp => kk p _ _ _ hp
      · walk_at "go"
        exact fun p hp => kk p _ _ _ hp
    · walk_at "go"
      exact fun p hp => kk p _ _ _ hp
theorem ok_rounds (T : Tx K mg) (c__law_dice : CalX P w K mg base 1 "_law_dice" (spD K cDice) []) {f : Addr} {fd : FuncData} (F : FunD K "_law_rounds" "_law_rounds" (defArgs s_law_rounds) (defBody s_law_rounds) (defScope s_law_rounds) [] [] f fd) : FnOk P w K mg base (L2.CX P w) 2 f fd ["script", "most"] (spD K cRounds) := by
  refine dfn 4 F sc_law_rounds (fun ds S q e h => ?_) rfl (fun cdv A outer s H E e hr => ⟨_, (dss_cons (ds_set (i := 2) sc_law_rounds.nd rfl (Or.inl rfl) (de_sl rfl (dv (pv 0)) do_none (do_some (dv (pv 1)))))
  (dss_cons (ds_if (dt_cmp (od_eqV rfl (hU_of hr)) (dv (pv 2)) (de_lst da_nil)) (dss_one (ds_set (i := 2) sc_law_rounds.nd rfl (Or.inl rfl) (de_lst (da_cons de_int da_nil)))) dss_nil)
  (dss_one (ds_ret (de_lc (own := [("cell", 3)]) rfl sc_law_rounds.nd (di_lst rfl (dv (pv 2))) (blkOk_by (own := [("cell", 3)]) (N := sl_law_rounds) (sc := defScope s_law_rounds) (by decide +kernel)) (fun _ _ _ _ _ => (gw_name (i := 3) sc_law_rounds.nd rfl (Or.inl rfl) (by decide))) (fun _ _ _ _ _ => ts_nil) (fun _ _ _ _ _ => (de_call rfl c__law_dice dfl_nil hr (by decide) rfl passL (da_cons (dv (pv 3)) da_nil)))))))), fun ds S q h => ?_⟩)
  · obtain ⟨ns, rfl, _⟩ := h
    rfl
  · obtain ⟨ns, rfl, nl, kk⟩ := h
    walk_at "go"
    have e1 : ∃ ms : List Int, Dn.cutD (ns.map Dt.int) none (some 1) = ms.map Dt.int ∧ ms.length ≤ 1 := by
      refine ⟨ns.take 1, ?_, by simp; omega⟩
      unfold Dn.cutD
      simp only [HT.sIx, List.length_map, List.map_take]
      cases ns with
      | nil => rfl
      | cons n r => simp
    obtain ⟨ms, e1, ml⟩ := e1
    rw [e1]
    refine ((tells_enc (α := Int)).lst).eq (a := ms) (b := []) (by decide) ?_
    walk_at "go"
    have fin : ∀ i : Int, dLc (dItLs (dVar 2)) (dName 3) [3] dYes (dCall cDice [] noX (dCons (dVar 3) dNil)) (fun l S' => q (.lst l) S') [some (.scr ns), some (.int 1), some (.lst [.int i]), none] S := fun i => by
      walk_at "go"
      refine ⟨i, rfl, fun p x n k np => ?_⟩
      walk_at "go"
      exact kk p x n k np
    refine ift (fun h => ?_) (fun h => ?_)
    · subst h
      walk_at "w"
      exact fin _
    · walk_at "w"
      obtain ⟨i, rfl⟩ : ∃ i, ms = [i] := by
        cases ms with
        | nil => exact absurd rfl h
        | cons i r =>
          cases r with
          | nil => exact ⟨i, rfl⟩
          | cons _ _ => simp at ml
      exact fin _
end
end K17

open PySem PySem.Spec PyProof.Rows L2 Pr Dn

namespace K17
abbrev Row3 := Str × Option Str × Option Str
def rowD (r : Row3) : Dt := .tup [.str r.1, oS r.2.1, oS r.2.2]
def rowsD (l : List Row3) : Dt := .tup (l.map rowD)
structure Sh where
  rows : List (Str × Str)
  change : Option (Str × List (Str × Option Str))
  pages : List (Str × List (List Row3))
structure Ad where
  R : Addr
  L : Addr
  W : Addr
  C : Addr
  ws : List (Str × (Addr × List (List Row3)))
def Sh.on (s : Sh) (p : Str) : Bool := decide (p ∈ s.pages.map (·.1))
@[reducible] def Sh.mine (s : Sh) (p : Str) : Bool := match s.change with
  | none => false
  | some (x, _) => decide (x = p)
@[reducible] def chD (K : PySem.W.Frag) (A : Ad) : Option (Str × List (Str × Option Str)) → Dt
  | none => .non
  | some (p, _) => .obj (He.ga K "Change") nm_Change [.str p, .ref A.C]
def chA (A : Ad) (s : Sh) : List Addr := match s.change with
  | none => []
  | some _ => [A.C]
def own (m : Addr) (A : Ad) (s : Sh) : List Addr := m :: A.R :: A.L :: A.W :: (chA A s ++ A.ws.map (·.2.1))
structure ShAt (K : PySem.W.Frag) (S : Store) (m : Addr) (A : Ad) (s : Sh) : Prop where
  ins : S m = some (.ins (He.ga K "Shelf") nm_Shelf [.ref A.R, chD K A s.change, .ref A.L, .ref A.W])
  rows : S A.R = some (.dic (encD .str s.rows))
  lst : S A.L = some (.lst (s.pages.map fun p => .str p.1))
  wt : S A.W = some (.dic (encD (fun p => .ref p.1) A.ws))
  chg : ∀ p l, s.change = some (p, l) → S A.C = some (.dic (encD oS l))
  pr : pr A.ws = s.pages
  wl : ∀ e ∈ A.ws, S e.2.1 = some (.lst (e.2.2.map rowsD))
  ndk : (s.pages.map (·.1)).Nodup
  ndr : (s.rows.map (·.1)).Nodup
  ndc : ∀ p l, s.change = some (p, l) → (l.map (·.1)).Nodup
  nda : (A.L :: A.ws.map (·.2.1)).Nodup
  rw : A.R ≠ A.W
  cd : ∀ p l, s.change = some (p, l) → A.C ≠ A.R ∧ A.C ≠ A.W
/-- what is behind a deed -/
def Post (K : PySem.W.Frag) (m : Addr) (A : Ad) (s : Sh) (S : Store) (s' : Sh) (q : Store → Prop) : Prop := ∀ A' S', ShAt K S' m A' s' → Frm (own m A s) S S' → NewA (own m A s) (own m A' s') S → q S'
theorem Post.use {K : PySem.W.Frag} {m : Addr} {A : Ad} {s : Sh} {S S' : Store} {s' : Sh} {q : Store → Prop} (h : Post K m A s S s' q) (A' : Ad) (sh : ShAt K S' m A' s') (k : Frm (own m A s) S S') (n : NewA (own m A s) (own m A' s') S) : q S' := h A' S' sh k n
def cNeed (K : PySem.W.Frag) : DSp := fun ds S q e => ∃ m A s page, ds = [.ref m, .str page] ∧ ShAt K S m A s ∧ Ift (s.on page) (q .non S) (e (He.ga K "StoreError") S)
def cOwned (K : PySem.W.Frag) : DSp := fun ds S q e => ∃ m A s page, ds = [.ref m, .str page] ∧ ShAt K S m A s ∧ Ift (s.on page && s.mine page) (q (chD K A s.change) S) (e (He.ga K "StoreError") S)
theorem mem_on {s : Sh} {p : Str} : memD (.str p) (s.pages.map fun x => Dt.str x.1) = s.on p := by
  have h := (tells_enc (α := Str)).mem p (s.pages.map (·.1))
  rw [List.map_map] at h
  exact h
theorem on_some {s : Sh} {p : Str} {l : List (List Row3)} (h : aGet s.pages p = some l) : s.on p = true := decide_eq_true (List.mem_map.mpr ⟨_, aGet_mem h, rfl⟩)
theorem on_none {s : Sh} {p : Str} (h : aGet s.pages p = none) : s.on p = false := decide_eq_false fun z => by
  obtain ⟨e, he, rfl⟩ := List.mem_map.mp z
  exact aGet_none.mp h e.2 he
theorem ShAt.ws_get {K : PySem.W.Frag} {S : Store} {m : Addr} {A : Ad} {s : Sh} (sh : ShAt K S m A s) {p : Str} {l : List (List Row3)} (h : aGet s.pages p = some l) : ∃ a, aGet A.ws p = some (a, l) ∧ (p, (a, l)) ∈ A.ws ∧ S a = some (.lst (l.map rowsD)) ∧ kGet (encD (fun p => Dt.ref p.1) A.ws) (Sum.inr p) = some (.ref a) := by
  rw [← sh.pr] at h
  obtain ⟨a, ha⟩ := pr_get h
  exact ⟨a, ha, aGet_mem ha, sh.wl _ (aGet_mem ha), by rw [encD_get, ha]; rfl⟩
theorem ShAt.ws_len {K : PySem.W.Frag} {S : Store} {m : Addr} {A : Ad} {s : Sh} (sh : ShAt K S m A s) : A.ws.length = s.pages.length := by rw [← sh.pr]; exact (List.length_map ..).symm
theorem ShAt.ws_none {K : PySem.W.Frag} {S : Store} {m : Addr} {A : Ad} {s : Sh} (sh : ShAt K S m A s) {p : Str} (h : aGet s.pages p = none) : aGet A.ws p = none := by rw [← sh.pr] at h; exact pr_none h
theorem ShAt.keys {K : PySem.W.Frag} {S : Store} {m : Addr} {A : Ad} {s : Sh} (sh : ShAt K S m A s) : A.ws.map (·.1) = s.pages.map (·.1) := by rw [← sh.pr, pr_keys]
section
variable {P : Program} {w : World} {K : PySem.W.Frag} {mg : Str → Option Value} {base : Heap}
theorem ok_need (T : Tx K mg) {f : Addr} {fd : FuncData} (F : FunD K "need" "Shelf.need" (defArgs s_Shelf_need) (defBody s_Shelf_need) (defScope s_Shelf_need) [] [] f fd) : FnOk P w K mg base (L2.CX P w) 1 f fd ["self", "page"] (spD K (cNeed K)) := by
  refine dfn 2 F sc_Shelf_need (fun ds S q e h => ?_) rfl (fun cdv A outer s H E e hr => ⟨_, (dss_one (ds_if (dt_cmp (od_notin rfl (hW_of hr)) (dv (pv 1)) (de_fld rfl (fd_Shelf_listening T) (dv (pv 0)))) (dss_one (dr_raise (C := He.ga K "StoreError") PySem.F.excBase_ValueError T.x_StoreError.1 T.g_StoreError T.x_StoreError.2.1 (raises_own T.x_StoreError.2.2.1 T.x_StoreError.2.2.2) rfl)) dss_nil)), fun ds S q h => ?_⟩)
  · obtain ⟨_, _, _, _, rfl, _⟩ := h
    rfl
  · obtain ⟨m, A, s, page, rfl, sh, h⟩ := h
    have ins := sh.ins
    have lst := sh.lst
    walk_at "go"
    refine notin_strsC (f := fun p : Str × List (List Row3) => p.1) lst ?_
    walk_at "go"
    refine iftNb (fun h1 => ?_) (fun h1 => ?_)
    · rw [show s.on page = false from h1] at h
      walk_at "go"
      exact h
    · rw [show s.on page = true from h1] at h
      walk_at "go"
      exact h
end
end K17

open PySem PySem.Spec PyProof.Rows L2 Pr Dn

namespace K17
abbrev SE (K : PySem.W.Frag) : Addr := He.ga K "StoreError"
def cOpen (K : PySem.W.Frag) : DSp := fun ds S q e => ∃ m A s page, ds = [.ref m, .str page] ∧ ShAt K S m A s ∧ s.pages.length ≤ 1000 ∧ Ift (s.on page) (e (SE K) S) (Post K m A s S { s with pages := s.pages ++ [(page, [])] } (q .non))
def cBegin (K : PySem.W.Frag) : DSp := fun ds S q e => ∃ m A s page, ds = [.ref m, .str page] ∧ ShAt K S m A s ∧ Ift (s.on page && s.change.isNone) (Post K m A s S { s with change := some (page, []) } (q .non)) (e (SE K) S)
def cRoll (K : PySem.W.Frag) : DSp := fun ds S q e => ∃ m A s page, ds = [.ref m, .str page] ∧ ShAt K S m A s ∧ Ift (s.on page && s.mine page) (Post K m A s S { s with change := none } (q .non)) (e (SE K) S)
def cChange (K : PySem.W.Frag) : DSp := fun ds S q _ => ∃ m page, ds = [.ref m, .str page] ∧ S m = some (.ins (He.ga K "Change") nm_Change []) ∧ ∀ p, S p = none → p ≠ m → q .non (sput (sput (sput S m (.ins (He.ga K "Change") nm_Change [.str page])) p (.dic [])) m (.ins (He.ga K "Change") nm_Change [.str page, .ref p]))
section
variable {P : Program} {w : World} {K : PySem.W.Frag} {mg : Str → Option Value} {base : Heap}
theorem ok_owned (T : Tx K mg) (m_Shelf_need : MetX P w K mg base 1 (He.ga K "Shelf") "need" (spD K (cNeed K)) []) {f : Addr} {fd : FuncData} (F : FunD K "owned" "Shelf.owned" (defArgs s_Shelf_owned) (defBody s_Shelf_owned) (defScope s_Shelf_owned) [] [] f fd) : FnOk P w K mg base (L2.CX P w) 2 f fd ["self", "page"] (spD K (cOwned K)) := by
  refine dfn 2 F sc_Shelf_owned (fun ds S q e h => ?_) rfl (fun cdv A outer s H E e hr => ⟨_, (dss_cons (ds_expr (de_meth (nm := nm_Shelf) rfl m_Shelf_need (by decide +kernel) dfl_nil hr (by decide) paX (dv (pv 0)) (da_cons (dv (pv 1)) da_nil)))
  (dss_cons (ds_if (PW.pt (dt_or (dt_cmp od_is (de_fld rfl (fd_Shelf_change T) (dv (pv 0))) de_non) (pw_or1 (dt_cmp (od_ne rfl (hU_of hr)) (de_fld rfl (fd_Change_page T) (de_fld rfl (fd_Shelf_change T) (dv (pv 0)))) (dv (pv 1)))))) (dss_one (dr_raise (C := He.ga K "StoreError") PySem.F.excBase_ValueError T.x_StoreError.1 T.g_StoreError T.x_StoreError.2.1 (raises_own T.x_StoreError.2.2.1 T.x_StoreError.2.2.2) rfl)) dss_nil)
  (dss_one (ds_ret (de_fld rfl (fd_Shelf_change T) (dv (pv 0))))))), fun ds S q h => ?_⟩)
  · obtain ⟨_, _, _, _, rfl, _⟩ := h
    rfl
  · obtain ⟨m, A, s, page, rfl, sh, h⟩ := h
    obtain ⟨rows, ch, pages⟩ := s
    have ins := sh.ins
    walk_at "go"
    refine ⟨m, A, _, page, rfl, sh, ?_⟩
    refine ift_b (fun h1 => ?_) (fun h1 => ?_)
    · rw [h1] at h
      cases ch with
      | none =>
        walk_at "go"
        exact h
      | some c =>
        obtain ⟨p, l⟩ := c
        have h : Ift (decide (p = page)) (q (chD K A (some (p, l))) S) (e (SE K) S) := h
        walk_at "go"
        refine iftN (p := p = page) (fun h2 => ?_) (fun h2 => ?_)
        · rw [decide_eq_false h2] at h
          walk_at "go"
          exact h
        · rw [decide_eq_true h2] at h
          walk_at "go"
          exact h
    · rw [h1] at h
      exact h
theorem ok_roll_back (T : Tx K mg) (m_Shelf_owned : MetX P w K mg base 2 (He.ga K "Shelf") "owned" (spD K (cOwned K)) []) {f : Addr} {fd : FuncData} (F : FunD K "roll_back" "Shelf.roll_back" (defArgs s_Shelf_roll_back) (defBody s_Shelf_roll_back) (defScope s_Shelf_roll_back) [] [] f fd) : FnOk P w K mg base (L2.CX P w) 3 f fd ["self", "page"] (spD K (cRoll K)) := by
  refine dfn 2 F sc_Shelf_roll_back (fun ds S q e h => ?_) rfl (fun cdv A outer s H E e hr => ⟨_, (dss_cons (ds_expr (de_meth (nm := nm_Shelf) rfl m_Shelf_owned (by decide +kernel) dfl_nil hr (by decide) paX (dv (pv 0)) (da_cons (dv (pv 1)) da_nil)))
  (dss_one (ds_fld rfl (fd_Shelf_change T) (dv (pv 0)) de_non))), fun ds S q h => ?_⟩)
  · obtain ⟨_, _, _, _, rfl, _⟩ := h
    rfl
  · obtain ⟨m, A, s, page, rfl, sh, h⟩ := h
    have ins := sh.ins
    have rows := sh.rows
    have lst := sh.lst
    have wt := sh.wt
    walk_at "go"
    refine ⟨m, A, _, page, rfl, sh, ?_⟩
    refine ift_b (fun h1 => ?_) (fun h1 => ?_)
    · rw [h1] at h
      walk_at "go"
      refine Post.use h A ⟨by walk_at "su", by walk_at "su", by walk_at "su", by walk_at "su", fun p l z => (by cases z), sh.pr, fun e he => ?_, sh.ndk, sh.ndr, fun p l z => by (cases z), sh.nda, sh.rw, fun p l z => (by cases z)⟩ (Frm.refl.mut (by simp [own])) (fun b hb => .inl ?_)
      · have we := sh.wl e he
        exact (sput_ne (by walk_at "ne")).trans we
      · simp only [own, chA, List.mem_cons, List.mem_append, List.nil_append] at hb ⊢
        rcases hb with hb | hb | hb | hb | hb <;> simp [hb]
    · rw [h1] at h
      exact h
theorem ok_Change (T : Tx K mg) {f : Addr} {fd : FuncData} (F : FunD K "__init__" "Change.__init__" (defArgs s_Change_init) (defBody s_Change_init) (defScope s_Change_init) [] [] f fd) : FnOk P w K mg base (L2.CX P w) 1 f fd ["self", "page"] (spD K (cChange K)) := by
  refine dfn 2 F sc_Change_init (fun ds S q e h => ?_) rfl (fun cdv A outer s H E e hr => ⟨_, (dss_cons (ds_fld rfl (fd_Change_page T) (dv (pv 0)) (dv (pv 1)))
  (dss_one (ds_fld rfl (fd_Change_rows T) (dv (pv 0)) de_dnewO))), fun ds S q h => ?_⟩)
  · obtain ⟨_, _, rfl, _⟩ := h
    rfl
  · obtain ⟨m, page, rfl, hm, h⟩ := h
    walk_at "go"
    intro p np
    obtain ⟨n1, n2⟩ := sput_free np
    walk_at "go"
    exact h p n2 n1
theorem ok_begin (T : Tx K mg) (m_Shelf_need : MetX P w K mg base 1 (He.ga K "Shelf") "need" (spD K (cNeed K)) []) (k_Change : MakX P w K mg base 1 "Change" (He.ga K "Change") (spD K (cChange K)) []) {f : Addr} {fd : FuncData} (F : FunD K "begin" "Shelf.begin" (defArgs s_Shelf_begin) (defBody s_Shelf_begin) (defScope s_Shelf_begin) [] [] f fd) : FnOk P w K mg base (L2.CX P w) 3 f fd ["self", "page"] (spD K (cBegin K)) := by
  refine dfn 2 F sc_Shelf_begin (fun ds S q e h => ?_) rfl (fun cdv A outer s H E e hr => ⟨_, (dss_cons (ds_expr (de_meth (nm := nm_Shelf) rfl m_Shelf_need (by decide +kernel) dfl_nil hr (by decide) paX (dv (pv 0)) (da_cons (dv (pv 1)) da_nil)))
  (dss_cons (ds_if (dt_cmp od_isNot (de_fld rfl (fd_Shelf_change T) (dv (pv 0))) de_non) (dss_one (dr_raise (C := He.ga K "StoreError") PySem.F.excBase_ValueError T.x_StoreError.1 T.g_StoreError T.x_StoreError.2.1 (raises_own T.x_StoreError.2.2.1 T.x_StoreError.2.2.2) rfl)) dss_nil)
  (dss_one (ds_fld rfl (fd_Shelf_change T) (dv (pv 0)) (de_frz (de_make (nm := nm_Change) rfl k_Change dfl_nil hr (by decide) rfl paX (da_cons (dv (pv 1)) da_nil))))))), fun ds S q h => ?_⟩)
  · obtain ⟨_, _, _, _, rfl, _⟩ := h
    rfl
  · obtain ⟨m, A, s, page, rfl, sh, h⟩ := h
    obtain ⟨rws, ch, pages⟩ := s
    have ins := sh.ins
    have rows := sh.rows
    have lst := sh.lst
    have wt := sh.wt
    walk_at "go"
    refine ⟨m, A, _, page, rfl, sh, ?_⟩
    refine ift_b (fun h1 => ?_) (fun h1 => ?_)
    · rw [h1] at h
      cases ch with
      | some c =>
        walk_at "go"
        exact h
      | none =>
        walk_at "go"
        intro p np
        walk_at "go"
        refine ⟨p, page, rfl, sput_same, fun d nd hd => ?_⟩
        have nd := (sput_free nd).2
        walk_at "go"
        refine Post.use h ⟨A.R, A.L, A.W, d, A.ws⟩ ⟨by walk_at "su", by walk_at "su", by walk_at "su", by walk_at "su", fun p l z => (by cases z; walk_at "su"), sh.pr, fun e he => ?_, sh.ndk, sh.ndr, fun p l z => (by cases z; exact .nil), sh.nda, sh.rw, fun p l z => ⟨by walk_at "ne", by walk_at "ne"⟩⟩ ?_ (fun b hb => ?_)
        · have we := sh.wl e he
          walk_at "su"
        · exact ((((((Frm.refl.own np).own np).own nd).own np).delN np).mut (by simp [own]))
        · simp only [own, chA, List.mem_cons, List.mem_append, List.nil_append, List.not_mem_nil, or_false] at hb ⊢
          rcases hb with hb | hb | hb | hb | hb | hb
          · exact .inl (.inl hb)
          · exact .inl (.inr (.inl hb))
          · exact .inl (.inr (.inr (.inl hb)))
          · exact .inl (.inr (.inr (.inr (.inl hb))))
          · exact .inr (by rw [hb]; exact nd)
          · exact .inl (.inr (.inr (.inr (.inr hb))))
    · rw [h1] at h
      exact h
end
end K17

open PySem PySem.Spec PyProof.Rows L2 Pr Dn

namespace K17
def Sh.read (s : Sh) (p k : Str) : Option Str := match s.change with
  | none => aGet s.rows k
  | some (x, l) => if x = p then (match aGet l k with
    | some o => o
    | none => aGet s.rows k) else aGet s.rows k
def cRead (K : PySem.W.Frag) : DSp := fun ds S q e => ∃ m A s page key, ds = [.ref m, .str page, .str key] ∧ ShAt K S m A s ∧ Ift (s.on page) (q (oS (s.read page key)) S) (e (SE K) S)
def rowOk : Dt → Dt → Option (Str × Option Str)
  | .str k, .non => if k = "" ∨ k.length > 50 then none else some (k, none)
  | .str k, .str t => if k = "" ∨ k.length > 50 then none else some (k, some t)
  | _, _ => none
def plain : Dt → Bool
  | .non | .str _ | .int _ => true
  | _ => false
def Sh.set (s : Sh) (k : Str) (o : Option Str) : Sh := { s with change := s.change.map fun c => (c.1, aPut c.2 k o) }
def cSet (K : PySem.W.Frag) : DSp := fun ds S q e => ∃ m A s page kd td, ds = [.ref m, .str page, kd, td] ∧ plain kd = true ∧ kd ≠ .non ∧ plain td = true ∧ ShAt K S m A s ∧ (∀ p l, s.change = some (p, l) → l.length ≤ 1000) ∧ Ift (s.on page && s.mine page) (match rowOk kd td with
  | some (k, o) => Post K m A s S (s.set k o) (q .non)
  | none => e (SE K) S) (e (SE K) S)
def cTold (K : PySem.W.Frag) : DSp := fun ds S q e => ∃ m A s page, ds = [.ref m, .str page] ∧ ShAt K S m A s ∧ s.pages.length ≤ 1000 ∧ (match aGet s.pages page with
  | some l => Post K m A s S { s with pages := aPut s.pages page [] } (q (.tup (l.map rowsD)))
  | none => e (SE K) S)
def cClose (K : PySem.W.Frag) : DSp := fun ds S q e => ∃ m A s page, ds = [.ref m, .str page] ∧ ShAt K S m A s ∧ s.pages.length ≤ 1000 ∧ Ift (s.on page) (Post K m A s S { s with pages := aDrop s.pages page, change := if s.mine page then none else s.change } (q .non)) (e (SE K) S)
section
variable {P : Program} {w : World} {K : PySem.W.Frag} {mg : Str → Option Value} {base : Heap}
theorem ok_read (T : Tx K mg) (m_Shelf_need : MetX P w K mg base 1 (He.ga K "Shelf") "need" (spD K (cNeed K)) []) {f : Addr} {fd : FuncData} (F : FunD K "read_row" "Shelf.read_row" (defArgs s_Shelf_read_row) (defBody s_Shelf_read_row) (defScope s_Shelf_read_row) [] [] f fd) : FnOk P w K mg base (L2.CX P w) 3 f fd ["self", "page", "key"] (spD K (cRead K)) := by
  refine dfn 3 F sc_Shelf_read_row (fun ds S q e h => ?_) rfl (fun cdv A outer s H E e hr => ⟨_, (dss_cons (ds_expr (de_meth (nm := nm_Shelf) rfl m_Shelf_need (by decide +kernel) dfl_nil hr (by decide) paX (dv (pv 0)) (da_cons (dv (pv 1)) da_nil)))
  (dss_cons (ds_if (PW.pt (dt_and (dt_cmp od_isNot (de_fld rfl (fd_Shelf_change T) (dv (pv 0))) de_non) (dt_and (dt_cmp (od_eq rfl (hU_of hr)) (de_fld rfl (fd_Change_page T) (de_fld rfl (fd_Shelf_change T) (dv (pv 0)))) (dv (pv 1))) (pw_and1 (dt_din (hu_of hr) (dv (pv 2)) (de_fld rfl (fd_Change_rows T) (de_fld rfl (fd_Shelf_change T) (dv (pv 0))))))))) (dss_one (ds_ret (de_dget (hu_of hr) (de_fld rfl (fd_Change_rows T) (de_fld rfl (fd_Shelf_change T) (dv (pv 0)))) (dv (pv 2)) (fun _ _ => rfl)))) dss_nil)
  (dss_one (ds_ret (de_dget1 (hu_of hr) (de_fld rfl (fd_Shelf_rows T) (dv (pv 0))) (dv (pv 2)) ⟨by rfl, by rfl, by rfl, by rfl⟩))))), fun ds S q h => ?_⟩)
  · obtain ⟨_, _, _, _, _, rfl, _⟩ := h
    rfl
  · obtain ⟨m, A, s, page, key, rfl, sh, h⟩ := h
    obtain ⟨rws, ch, pages⟩ := s
    try dsimp only at h
    have ins := sh.ins
    try dsimp only at ins
    have rows : S A.R = some (.dic (encD .str rws)) := sh.rows
    walk_at "go"
    refine ⟨m, A, _, page, rfl, sh, ?_⟩
    refine ift_b (fun h1 => ?_) (fun h1 => ?_)
    · rw [h1] at h
      have key_rows : ((kGet (encD .str rws) (Sum.inr key)).getD .non) = oS (aGet rws key) := by
        rw [encD_get]
        cases aGet rws key <;> rfl
      cases ch with
      | none =>
        have h : q (oS (aGet rws key)) S := h
        rw [← key_rows] at h
        walk_at "go"
        exact h
      | some c =>
        obtain ⟨p, l⟩ := c
        have hc := sh.chg p l rfl
        have h : q (oS (if p = page then (match aGet l key with
          | some o => o
          | none => aGet rws key) else aGet rws key)) S := h
        walk_at "go"
        refine ift (fun h2 => ?_) (fun h2 => ?_)
        · rw [if_pos h2] at h
          walk_at "go"
          cases hg : aGet l key with
          | some o =>
            rw [hg] at h
            refine ift_t (by rw [encD_get, hg]; rfl) ?_
            walk_at "go"
            exact ⟨oS o, by rw [encD_get, hg]; rfl, h⟩
          | none =>
            rw [hg] at h
            refine ift_f (by rw [encD_get, hg]; rfl) ?_
            walk_at "go"
            rw [key_rows]
            exact h
        · rw [if_neg h2, ← key_rows] at h
          walk_at "go"
          exact h
    · rw [h1] at h
      exact h
theorem ok_set (T : Tx K mg) (m_Shelf_owned : MetX P w K mg base 2 (He.ga K "Shelf") "owned" (spD K (cOwned K)) []) {f : Addr} {fd : FuncData} (F : FunD K "set_row" "Shelf.set_row" (defArgs s_Shelf_set_row) (defBody s_Shelf_set_row) (defScope s_Shelf_set_row) [] [] f fd) : FnOk P w K mg base (L2.CX P w) 3 f fd ["self", "page", "key", "text"] (spD K (cSet K)) := by
  refine dfn 5 F sc_Shelf_set_row (fun ds S q e h => ?_) rfl (fun cdv A outer s H E e hr => ⟨_, (dss_cons (ds_set (i := 4) sc_Shelf_set_row.nd rfl (Or.inl rfl) (de_meth (nm := nm_Shelf) rfl m_Shelf_owned (by decide +kernel) dfl_nil hr (by decide) paX (dv (pv 0)) (da_cons (dv (pv 1)) da_nil)))
  (dss_cons (ds_if (PW.pt (dt_or (dt_not (de_tru rfl (de_callB (cd_isi (n := "str") rfl) (by rfl) T.b_isinstance (by decide +kernel) (da_cons (dv (pv 2)) (da_cons (de_c (d := .ty "str") (pe_bltn (v := .ty "str") (by rfl) T.b_str (by decide +kernel) rfl) (fun _ => rfl)) da_nil))))) (dt_or (dt_cmp (od_eq rfl (hU_of hr)) (dv (pv 2)) de_str) (dt_or (dt_cmp od_gt (de_callB (cd_len rfl) (by rfl) T.b_len (by decide +kernel) (da_cons (dv (pv 2)) da_nil)) de_int) (pw_or1 (dt_not (PW.pt (dt_or (dt_cmp od_is (dv (pv 3)) de_non) (pw_or1 (de_tru rfl (de_callB (cd_isi (n := "str") rfl) (by rfl) T.b_isinstance (by decide +kernel) (da_cons (dv (pv 3)) (da_cons (de_c (d := .ty "str") (pe_bltn (v := .ty "str") (by rfl) T.b_str (by decide +kernel) rfl) (fun _ => rfl)) da_nil))))))))))))) (dss_one (dr_raise (C := He.ga K "StoreError") PySem.F.excBase_ValueError T.x_StoreError.1 T.g_StoreError T.x_StoreError.2.1 (raises_own T.x_StoreError.2.2.1 T.x_StoreError.2.2.2) rfl)) dss_nil)
  (dss_one (ds_asg (dv (pv 3)) (dg_subD (hu_of hr) (de_fld rfl (fd_Change_rows T) (dv (pv 4))) (dv (pv 2))))))), fun ds S q h => ?_⟩)
  · obtain ⟨_, _, _, _, _, _, rfl, _⟩ := h
    rfl
  · obtain ⟨m, A, s, page, kd, td, rfl, pk, nk, pt, sh, few, h⟩ := h
    obtain ⟨rws, ch, pages⟩ := s
    try dsimp only at h
    have ins := sh.ins
    try dsimp only at ins
    walk_at "go"
    refine ⟨m, A, _, page, rfl, sh, ?_⟩
    refine ift_b (fun h1 => ?_) (fun h1 => ?_)
    · rw [h1] at h
      cases ch with
      | none => simp [Sh.mine] at h1
      | some c =>
        obtain ⟨p, l⟩ := c
        have hc := sh.chg p l rfl
        have few : l.length ≤ 1000 := few p l rfl
        have good : ∀ (k : Str) (o : Option Str), Post K m A ⟨rws, some (p, l), pages⟩ S ⟨rws, some (p, aPut l k o), pages⟩ (q .non) → q .non (sput S A.C (.dic (kPut (encD oS l) (Sum.inr k) (oS o)))) := fun k o h => by
          have rows := sh.rows
          have lst := sh.lst
          have wt := sh.wt
          obtain ⟨c1, c2⟩ := sh.cd p l rfl
          rw [encD_put]
          refine Post.use h A ⟨by walk_at "su", by walk_at "su", by walk_at "su", by walk_at "su", fun x y z => (by cases z; walk_at "su"), sh.pr, fun e he => ?_, sh.ndk, sh.ndr, fun x y z => (by cases z; exact aPut_nd _ (sh.ndc p l rfl)), sh.nda, sh.rw, fun x y z => (by cases z; exact sh.cd p l rfl)⟩ (Frm.refl.mut (by simp [own, chA])) (fun b hb => .inl hb)
          have we := sh.wl e he
          walk_at "su"
        have long : ∀ (k : Str), (50 : Int) < (k.length : Nat) ↔ k.length > 50 := fun k => by omega
        cases kd with
        | str k =>
          cases td with
          | non =>
            walk_at "go"
            refine ift (fun h2 => ?_) (fun h2 => ?_)
            · walk_at "go"
              rw [show rowOk (.str k) .non = none from if_pos (.inl h2)] at h
              exact h
            · walk_at "go"
              refine ift (p := (50 : Int) < (k.length : Nat)) (fun h3 => ?_) (fun h3 => ?_)
              · walk_at "go"
                rw [show rowOk (.str k) .non = none from if_pos (.inr ((long k).mp h3))] at h
                exact h
              · walk_at "go"
                rw [show rowOk (.str k) .non = some (k, none) from if_neg fun z => z.elim h2 fun z => h3 ((long k).mpr z)] at h
                exact good k none h
          | str t =>
            walk_at "go"
            refine ift (fun h2 => ?_) (fun h2 => ?_)
            · walk_at "go"
              rw [show rowOk (.str k) (.str t) = none from if_pos (.inl h2)] at h
              exact h
            · walk_at "go"
              refine ift (p := (50 : Int) < (k.length : Nat)) (fun h3 => ?_) (fun h3 => ?_)
              · walk_at "go"
                rw [show rowOk (.str k) (.str t) = none from if_pos (.inr ((long k).mp h3))] at h
                exact h
              · walk_at "go"
                rw [show rowOk (.str k) (.str t) = some (k, some t) from if_neg fun z => z.elim h2 fun z => h3 ((long k).mpr z)] at h
                exact good k (some t) h
          | int i =>
            walk_at "go"
            refine ift (fun h2 => ?_) (fun h2 => ?_)
            · walk_at "go"
              exact h
            · walk_at "go"
              refine ift (p := (50 : Int) < (k.length : Nat)) (fun h3 => ?_) (fun h3 => ?_)
              · walk_at "go"
                exact h
              · walk_at "go"
                exact h
          | _ => cases pt
        | int i =>
          walk_at "go"
          cases td with
          | non => exact h
          | str t => exact h
          | int i => exact h
          | _ => cases pt
        | non => exact absurd rfl nk
        | _ => cases pk
    · rw [h1] at h
      exact h
theorem ok_told (T : Tx K mg) (m_Shelf_need : MetX P w K mg base 1 (He.ga K "Shelf") "need" (spD K (cNeed K)) []) {f : Addr} {fd : FuncData} (F : FunD K "told" "Shelf.told" (defArgs s_Shelf_told) (defBody s_Shelf_told) (defScope s_Shelf_told) [] [] f fd) : FnOk P w K mg base (L2.CX P w) 3 f fd ["self", "page"] (spD K (cTold K)) := by
  refine dfn 3 F sc_Shelf_told (fun ds S q e h => ?_) rfl (fun cdv A outer s H E e hr => ⟨_, (dss_cons (ds_expr (de_meth (nm := nm_Shelf) rfl m_Shelf_need (by decide +kernel) dfl_nil hr (by decide) paX (dv (pv 0)) (da_cons (dv (pv 1)) da_nil)))
  (dss_cons (ds_set (i := 2) sc_Shelf_told.nd rfl (Or.inl rfl) (de_tupOf rfl (by rfl) T.b_tuple (de_dget (hu_of hr) (de_fld rfl (fd_Shelf_waiting T) (dv (pv 0))) (dv (pv 1)) (fun _ _ => rfl))))
  (dss_cons (ds_asg (de_lstO da_nil) (dg_subD (hu_of hr) (de_fld rfl (fd_Shelf_waiting T) (dv (pv 0))) (dv (pv 1))))
  (dss_one (ds_ret (dv (pv 2))))))), fun ds S q h => ?_⟩)
  · obtain ⟨_, _, _, _, rfl, _⟩ := h
    rfl
  · obtain ⟨m, A, s, page, rfl, sh, few, h⟩ := h
    obtain ⟨rws, ch, pages⟩ := s
    try dsimp only at h
    have ins := sh.ins
    have rows := sh.rows
    have lst := sh.lst
    have wt := sh.wt
    try dsimp only at ins rows lst
    have few : A.ws.length ≤ 1000 := by rw [sh.ws_len]; exact few
    walk_at "go"
    refine ⟨m, A, _, page, rfl, sh, ?_⟩
    cases hg : aGet pages page with
    | none =>
      rw [hg] at h
      rw [on_none (s := ⟨rws, ch, pages⟩) hg]
      exact h
    | some l =>
      rw [hg] at h
      rw [on_some (s := ⟨rws, ch, pages⟩) hg]
      obtain ⟨a, ha, hm, hl, hk⟩ := sh.ws_get (p := page) (l := l) hg
      walk_at "go"
      refine ⟨_, hk, ?_⟩
      walk_at "go"
      intro p np
      walk_at "go"
      have rw_ := sh.rw
      have pa : p ∉ A.ws.map (·.2.1) := fun z => by
        obtain ⟨e, he, z⟩ := List.mem_map.mp z
        have := sh.wl e he
        rw [z, np] at this
        cases this
      have nd := List.nodup_cons.mp sh.nda
      rw [wPut (p := p) (l := ([] : List (List Row3)))]
      refine Post.use h ⟨A.R, A.L, A.W, A.C, aPut A.ws page (p, [])⟩ ⟨by walk_at "su", by walk_at "su", ?_, by walk_at "su", fun x y z => ?_, ?_, fun e he => ?_, ?_, sh.ndr, sh.ndc, ?_, sh.rw, sh.cd⟩ ((Frm.refl.own np).mut (by simp [own])) (fun b hb => ?_)
      · dsimp only
        rw [keys_map, put_keys hg, ← keys_map]
        walk_at "st"
      · have hc := sh.chg x y z
        obtain ⟨c1, c2⟩ := sh.cd x y z
        walk_at "su"
      · show pr _ = _
        rw [pr_put, sh.pr]
      · rcases aPut_mem he with rfl | ⟨he, _⟩
        · walk_at "su"
        · have we := sh.wl e he
          walk_at "su"
      · show ((aPut pages page []).map _).Nodup
        rw [put_keys hg]
        exact sh.ndk
      · refine List.nodup_cons.mpr ⟨fun z => ?_, put_nda (by rw [sh.keys]; exact sh.ndk) nd.2 pa⟩
        rcases put_addr z with z | z
        · exact ne_free lst np z
        · exact nd.1 z
      · simp only [own, List.mem_cons, List.mem_append] at hb ⊢
        rcases hb with hb | hb | hb | hb | hb | hb
        · simp [hb]
        · simp [hb]
        · simp [hb]
        · simp [hb]
        · exact .inl (.inr (.inr (.inr (.inr (.inl hb)))))
        · rcases put_addr hb with hb | hb
          · exact .inr (by rw [hb]; exact np)
          · exact .inl (.inr (.inr (.inr (.inr (.inr hb)))))
theorem ok_close (T : Tx K mg) (m_Shelf_need : MetX P w K mg base 1 (He.ga K "Shelf") "need" (spD K (cNeed K)) []) {f : Addr} {fd : FuncData} (F : FunD K "close_page" "Shelf.close_page" (defArgs s_Shelf_close_page) (defBody s_Shelf_close_page) (defScope s_Shelf_close_page) [] [] f fd) : FnOk P w K mg base (L2.CX P w) 3 f fd ["self", "page"] (spD K (cClose K)) := by
  refine dfn 3 F sc_Shelf_close_page (fun ds S q e h => ?_) rfl (fun cdv A outer s H E e hr => ⟨_, (dss_cons (ds_expr (de_meth (nm := nm_Shelf) rfl m_Shelf_need (by decide +kernel) dfl_nil hr (by decide) paX (dv (pv 0)) (da_cons (dv (pv 1)) da_nil)))
  (dss_cons (ds_fld rfl (fd_Shelf_listening T) (dv (pv 0)) (de_lcO (own := [("one", 2)]) rfl sc_Shelf_close_page.nd (di_lst rfl (de_fld rfl (fd_Shelf_listening T) (dv (pv 0)))) (blkOk_by (own := [("one", 2)]) (N := sl_Shelf_close_page) (sc := defScope s_Shelf_close_page) (by decide +kernel)) (fun _ _ _ _ _ => (gw_name (i := 2) sc_Shelf_close_page.nd rfl (Or.inl rfl) (by decide))) (fun _ _ _ _ _ => (ts_one (dt_cmp (od_ne rfl (hU_of hr)) (dv (pv 2)) (dv (pv 1))))) (fun _ _ _ _ _ => (dv (pv 2)))))
  (dss_cons (ds_ddel (de_fld rfl (fd_Shelf_waiting T) (dv (pv 0))) (dv (pv 1)))
  (dss_one (ds_if (PW.pt (dt_and (dt_cmp od_isNot (de_fld rfl (fd_Shelf_change T) (dv (pv 0))) de_non) (pw_and1 (dt_cmp (od_eq rfl (hU_of hr)) (de_fld rfl (fd_Change_page T) (de_fld rfl (fd_Shelf_change T) (dv (pv 0)))) (dv (pv 1)))))) (dss_one (ds_fld rfl (fd_Shelf_change T) (dv (pv 0)) de_non)) dss_nil))))), fun ds S q h => ?_⟩)
  · obtain ⟨_, _, _, _, rfl, _⟩ := h
    rfl
  · obtain ⟨m, A, s, page, rfl, sh, few, h⟩ := h
    obtain ⟨rws, ch, pages⟩ := s
    have few : pages.length ≤ 1000 := few
    try dsimp only at h
    have ins := sh.ins
    have rows := sh.rows
    have lst := sh.lst
    have wt := sh.wt
    try dsimp only at ins rows lst
    walk_at "go"
    refine ⟨m, A, _, page, rfl, sh, ?_⟩
    cases hg : aGet pages page with
    | none =>
      rw [on_none (s := ⟨rws, ch, pages⟩) hg] at h ⊢
      exact h
    | some l =>
      rw [on_some (s := ⟨rws, ch, pages⟩) hg] at h ⊢
      obtain ⟨a, ha, hm, hl, hk⟩ := sh.ws_get (p := page) (l := l) hg
      walk_at "go"
      refine lcGo_pure (S := S) (fun p : Str × List (List Row3) => Dt.str p.1) (fun p => if p.1 = page then none else some (.str p.1)) lst pages [] (fun x hx kY kN h3 h4 => ?_) ?_
      · walk_at "go"
        refine iftN (p := x.1 = page) (fun h5 => ?_) (fun h5 => ?_)
        · walk_at "go"
          exact h3 _ (if_neg h5)
        · exact h4 (if_pos h5)
      · intro p np
        rw [List.nil_append, strs_drop]
        walk_at "go"
        refine ⟨by rw [hk]; rfl, ?_⟩
        rw [encD_del]
        have rw_ := sh.rw
        have pa : p ∉ A.ws.map (·.2.1) := fun z => by
          obtain ⟨e, he, z⟩ := List.mem_map.mp z
          have := sh.wl e he
          rw [z, np] at this
          cases this
        have nd := List.nodup_cons.mp sh.nda
        have fin : ∀ (S' : Store) ch', (ch' = none ∨ ch' = ch) → S' m = some (.ins (He.ga K "Shelf") nm_Shelf [.ref A.R, chD K A ch', .ref p, .ref A.W]) → S' p = some (.lst ((aDrop pages page).map fun p => .str p.1)) → S' A.W = some (.dic (encD (fun p => .ref p.1) (aDrop A.ws page))) → (∀ b, b ≠ m → b ≠ p → b ≠ A.W → S' b = S b) →
            ShAt K S' m ⟨A.R, p, A.W, A.C, aDrop A.ws page⟩ ⟨rws, ch', aDrop pages page⟩ ∧ Frm (own m A ⟨rws, ch, pages⟩) S S' ∧ NewA (own m A ⟨rws, ch, pages⟩) (own m ⟨A.R, p, A.W, A.C, aDrop A.ws page⟩ ⟨rws, ch', aDrop pages page⟩) S := fun S' ch' hc' i1 i2 i3 i4 => by
          refine ⟨⟨i1, (i4 _ (by walk_at "ne") (by walk_at "ne") rw_).trans rows, i2, i3, fun x y z => ?_, ?_, fun e he => ?_, aDrop_nd sh.ndk, sh.ndr, fun x y z => ?_, ?_, sh.rw, fun x y z => ?_⟩, ⟨fun b u e n => ?_, fun b q e => ?_⟩, fun b hb => ?_⟩
          · rcases hc' with rfl | rfl
            · cases z
            · have hc := sh.chg x y z
              obtain ⟨c1, c2⟩ := sh.cd x y z
              exact (i4 _ (by walk_at "ne") (by walk_at "ne") c2).trans hc
          · show pr _ = _
            rw [pr_drop, sh.pr]
          · have we := sh.wl e (aDrop_mem.mp he).1
            exact (i4 _ (by walk_at "ne") (by walk_at "ne") (by walk_at "ne")).trans we
          · rcases hc' with rfl | rfl
            · cases z
            · exact sh.ndc x y z
          · refine List.nodup_cons.mpr ⟨fun z => ?_, drop_nda nd.2⟩
            exact pa (drop_addr z)
          · rcases hc' with rfl | rfl
            · cases z
            · exact sh.cd x y z
          · simp only [own, List.mem_cons, List.mem_append, not_or] at n
            rw [i4 b n.1 (ne_free e np) n.2.2.2.1]
            exact e
          · rw [← i4 b (fun z => by rw [z, i1] at e; cases e) (fun z => by rw [z, i2] at e; cases e) (fun z => by rw [z, i3] at e; cases e)]
            exact e
          · simp only [own, List.mem_cons, List.mem_append] at hb ⊢
            rcases hb with hb | hb | hb | hb | hb | hb
            · simp [hb]
            · simp [hb]
            · exact .inr (by rw [hb]; exact np)
            · simp [hb]
            · rcases hc' with rfl | rfl
              · cases hb
              · exact .inl (.inr (.inr (.inr (.inr (.inl hb)))))
            · exact .inl (.inr (.inr (.inr (.inr (.inr (drop_addr hb))))))
        have keep : ∀ b, b ≠ m → b ≠ p → b ≠ A.W → sput (sput (sput S p (.lst ((aDrop pages page).map fun p => .str p.1))) m (.ins (He.ga K "Shelf") nm_Shelf [.ref A.R, chD K A ch, .ref p, .ref A.W])) A.W (.dic (encD (fun p => .ref p.1) (aDrop A.ws page))) b = S b := fun b n1 n2 n3 => by rw [sput_ne n3, sput_ne n1, sput_ne n2]
        have same : ¬ (Sh.mine ⟨rws, ch, pages⟩ page = true) → q .non (sput (sput (sput S p (.lst ((aDrop pages page).map fun p => .str p.1))) m (.ins (He.ga K "Shelf") nm_Shelf [.ref A.R, chD K A ch, .ref p, .ref A.W])) A.W (.dic (encD (fun p => .ref p.1) (aDrop A.ws page)))) := fun hm => by
          obtain ⟨f1, f2, f3⟩ := fin _ ch (.inr rfl) (by walk_at "st") (by walk_at "st") (by walk_at "st") keep
          rw [if_neg hm] at h
          exact Post.use h _ f1 f2 f3
        cases ch with
        | none =>
          walk_at "go"
          exact same (by simp)
        | some c =>
          obtain ⟨x, y⟩ := c
          walk_at "go"
          refine ift (fun h5 => ?_) (fun h5 => ?_)
          · walk_at "go"
            obtain ⟨f1, f2, f3⟩ := fin (sput (sput (sput (sput S p (.lst ((aDrop pages page).map fun p => .str p.1))) m (.ins (He.ga K "Shelf") nm_Shelf [.ref A.R, chD K A (some (x, y)), .ref p, .ref A.W])) A.W (.dic (encD (fun p => .ref p.1) (aDrop A.ws page)))) m (.ins (He.ga K "Shelf") nm_Shelf [.ref A.R, .non, .ref p, .ref A.W])) none (.inl rfl) (by walk_at "st") (by walk_at "st") (by walk_at "st") fun b n1 n2 n3 => by rw [sput_ne n1]; exact keep b n1 n2 n3
            rw [if_pos (by simp [Sh.mine, h5])] at h
            exact Post.use h _ f1 f2 f3
          · walk_at "go"
            exact same (by simp [Sh.mine, h5])
theorem ok_open (T : Tx K mg) {f : Addr} {fd : FuncData} (F : FunD K "open_page" "Shelf.open_page" (defArgs s_Shelf_open_page) (defBody s_Shelf_open_page) (defScope s_Shelf_open_page) [] [] f fd) : FnOk P w K mg base (L2.CX P w) 1 f fd ["self", "page"] (spD K (cOpen K)) := by
  refine dfn 2 F sc_Shelf_open_page (fun ds S q e h => ?_) rfl (fun cdv A outer s H E e hr => ⟨_, (dss_cons (ds_if (dt_cmp (od_in rfl (hW_of hr)) (dv (pv 1)) (de_fld rfl (fd_Shelf_listening T) (dv (pv 0)))) (dss_one (dr_raise (C := He.ga K "StoreError") PySem.F.excBase_ValueError T.x_StoreError.1 T.g_StoreError T.x_StoreError.2.1 (raises_own T.x_StoreError.2.2.1 T.x_StoreError.2.2.2) rfl)) dss_nil)
  (dss_cons (ds_expr (de_bm rfl is_ls PySem.F.plainAttrs_list PySem.F.slot_list_append PySem.F.type_list_append md_append (de_fld rfl (fd_Shelf_listening T) (dv (pv 0))) (da_cons (dv (pv 1)) da_nil)))
  (dss_one (ds_asg (de_lstO da_nil) (dg_subD (hu_of hr) (de_fld rfl (fd_Shelf_waiting T) (dv (pv 0))) (dv (pv 1))))))), fun ds S q h => ?_⟩)
  · obtain ⟨_, _, _, _, rfl, _⟩ := h
    rfl
  · obtain ⟨m, A, s, page, rfl, sh, few, h⟩ := h
    have ins := sh.ins
    have rows := sh.rows
    have lst := sh.lst
    have wt := sh.wt
    try dsimp only at ins rows lst
    walk_at "go"
    refine in_strsC (f := fun p : Str × List (List Row3) => p.1) lst ?_
    walk_at "go"
    refine ift_b (fun h1 => ?_) (fun h1 => ?_)
    · rw [show s.on page = true from h1] at h
      walk_at "go"
      exact h
    · rw [show s.on page = false from h1] at h
      walk_at "go"
      intro p np
      obtain ⟨n1, n2⟩ := sput_free np
      have wl := sh.ws_len
      walk_at "go"
      have rw_ := sh.rw
      have pa : p ∉ A.ws.map (·.2.1) := fun z => by
        obtain ⟨e, he, z⟩ := List.mem_map.mp z
        have := sh.wl e he
        rw [z, n2] at this
        cases this
      have nd := List.nodup_cons.mp sh.nda
      have hg : aGet s.pages page = none := aGet_none.mpr fun v hv => of_decide_eq_false h1 (List.mem_map.mpr ⟨_, hv, rfl⟩)
      have hw := sh.ws_none hg
      rw [wPut (p := p) (l := ([] : List (List Row3)))]
      refine Post.use h ⟨A.R, A.L, A.W, A.C, aPut A.ws page (p, [])⟩ ⟨by walk_at "su", by walk_at "su", ?_, by walk_at "su", fun x y z => ?_, ?_, fun e he => ?_, ?_, sh.ndr, sh.ndc, ?_, sh.rw, sh.cd⟩ (((Frm.refl.mut (by simp [own])).own n2).mut (by simp [own])) (fun b hb => ?_)
      · dsimp only
        rw [List.map_append]
        walk_at "st"
      · have hc := sh.chg x y z
        obtain ⟨c1, c2⟩ := sh.cd x y z
        walk_at "su"
      · show pr _ = _
        rw [pr_put, sh.pr, aPut_new _ hg]
      · rcases aPut_mem he with rfl | ⟨he, _⟩
        · walk_at "su"
        · have we := sh.wl e he
          have nl : e.2.1 ≠ A.L := fun z => nd.1 (List.mem_map.mpr ⟨e, he, z⟩)
          walk_at "su"
      · show ((s.pages ++ [(page, [])]).map _).Nodup
        rw [List.map_append]
        refine List.nodup_append.mpr ⟨sh.ndk, by simp, fun a ha b hb z => ?_⟩
        obtain ⟨e, he, rfl⟩ := List.mem_map.mp ha
        rw [List.mem_singleton.mp hb] at z
        have z : e.1 = page := z
        exact of_decide_eq_false h1 (List.mem_map.mpr ⟨e, he, z⟩)
      · refine List.nodup_cons.mpr ⟨fun z => ?_, put_nda (by rw [sh.keys]; exact sh.ndk) nd.2 pa⟩
        rcases put_addr z with z | z
        · exact ne_free lst n2 z
        · exact nd.1 z
      · simp only [own, List.mem_cons, List.mem_append] at hb ⊢
        rcases hb with hb | hb | hb | hb | hb | hb
        · simp [hb]
        · simp [hb]
        · simp [hb]
        · simp [hb]
        · exact .inl (.inr (.inr (.inr (.inr (.inl hb)))))
        · rcases put_addr hb with hb | hb
          · exact .inr (by rw [hb]; exact n2)
          · exact .inl (.inr (.inr (.inr (.inr (.inr hb)))))
end
end K17

open PySem PySem.Spec PyProof.Rows L2 Pr Dn

namespace K17
def aftS (acc : List (Str × Str)) (e : Str × Option Str) : List (Str × Str) := match e.2 with
  | none => aDrop acc e.1
  | some t => aPut (aDrop acc e.1) e.1 t
def afterOf (rows : List (Str × Str)) (L : List (Str × Option Str)) : List (Str × Str) := L.foldl aftS rows
theorem aftS_len (rows : List (Str × Str)) (e : Str × Option Str) : (aftS rows e).length ≤ rows.length + 1 := by
  unfold aftS
  split
  · exact Nat.le_trans aDrop_len (Nat.le_succ _)
  · exact Nat.le_trans (aPut_len _) (Nat.succ_le_succ aDrop_len)
theorem after_len (rows : List (Str × Str)) : ∀ L : List (Str × Option Str), (afterOf rows L).length ≤ rows.length + L.length := by
  intro L
  unfold afterOf
  induction L generalizing rows with
  | nil => exact Nat.le_refl _
  | cons e r ih =>
    have h := ih (aftS rows e)
    have h2 := aftS_len rows e
    simp only [List.foldl_cons, List.length_cons]
    omega
/-- the change is at C, the rows at R -/
def cAfter (K : PySem.W.Frag) : DSp := fun ds S q _ => ∃ (m R : Addr) (a b c d : Dt) (C : Addr) (page : Str) (rows : List (Str × Str)) (L : List (Str × Option Str)), ds = [.ref m, .obj (He.ga K "Change") nm_Change [.str page, .ref C]] ∧ S m = some (.ins (He.ga K "Shelf") nm_Shelf [.ref R, a, b, c]) ∧ S R = some (.dic (encD .str rows)) ∧ S C = some (.dic (encD oS L)) ∧ rows.length + L.length ≤ 2000 ∧
  ∀ p, S p = none → q (.ref p) (sput S p (.dic (encD .str (afterOf rows L))))
section
variable {P : Program} {w : World} {K : PySem.W.Frag} {mg : Str → Option Value} {base : Heap}
theorem ok_after (T : Tx K mg) {f : Addr} {fd : FuncData} (F : FunD K "after" "Shelf.after" (defArgs s_Shelf_after) (defBody s_Shelf_after) (defScope s_Shelf_after) [] [] f fd) : FnOk P w K mg base (L2.CX P w) 1 f fd ["self", "change"] (spD K (cAfter K)) := by
  refine dfn 5 F sc_Shelf_after (fun ds S q e h => ?_) rfl (fun cdv A outer s H E e hr => ⟨_, (dss_cons (ds_set (i := 2) sc_Shelf_after.nd rfl (Or.inl rfl) (de_callTy (cd_copyO rfl) (by rfl) T.b_dict (by decide +kernel) (da_cons (de_fld rfl (fd_Shelf_rows T) (dv (pv 0))) da_nil)))
  (dss_cons (ds_lock (ds_for poX rfl (di_items (de_fld rfl (fd_Change_rows T) (dv (pv 1)))) (dg_tup (n := 2) rfl rfl (dgs_cons (dg_name (i := 3) sc_Shelf_after.nd rfl (Or.inl rfl)) (dgs_cons (dg_name (i := 4) sc_Shelf_after.nd rfl (Or.inl rfl)) dgs_nil))) (dss_cons (ds_expr (de_dpop2 (dv (pv 2)) (dv (pv 3)) de_non ⟨by rfl, by rfl, by rfl, by rfl⟩))
  (dss_one (ds_if (dt_cmp od_isNot (dv (pv 4)) de_non) (dss_one (ds_asg (dv (pv 4)) (dg_subD (hu_of hr) (dv (pv 2)) (dv (pv 3))))) dss_nil)))))
  (dss_one (ds_ret (dv (pv 2)))))), fun ds S q h => ?_⟩)
  · obtain ⟨_, _, _, _, _, _, _, _, _, _, rfl, _⟩ := h
    rfl
  · obtain ⟨m, R, a, b, c, d, C, page, rows, L, rfl, hm, hR, hC, few, h⟩ := h
    walk_at "go"
    intro p np
    walk_at "go"
    refine ⟨C, encD oS L, by walk_at "st", fun o => ?_⟩
    walk_at "go"
    rw [items_encD]
    have npC : p ≠ C := by walk_at "ne"
    refine forGo_ind (fun e : Str × Option Str => Dt.tup [.str e.1, oS e.2])
      (fun r δ S' => ∃ u3 u4 acc, δ = [some (.ref m), some (.obj (He.ga K "Change") nm_Change [.str page, .ref C]), some (.ref p), u3, u4] ∧ S' p = some (.dic (encD .str acc)) ∧ S' C = some (.lck o (encD oS L)) ∧ (∀ b, b ≠ p → b ≠ C → S' b = S b) ∧ acc.length + r.length ≤ 2000 ∧ afterOf acc r = afterOf rows L)
      (fun δ S' h0 => ?_) (fun e r δ S' h0 => ?_) L _ _ ⟨_, _, rows, rfl, by walk_at "st", by walk_at "st", fun b n1 n2 => by rw [sput_ne n2, sput_ne n1], few, rfl⟩
    · obtain ⟨u3, u4, acc, rfl, h1, h2, h3, _, h4⟩ := h0
      refine ⟨h2, h2, ?_⟩
      walk_at "go"
      have e1 : sput S' C (.dic (encD oS L)) = sput S p (.dic (encD .str (afterOf rows L))) := by
        refine store_eq ?_ fun b n => ?_
        · rw [sput_ne npC, h1, ← h4]
          rfl
        · by_cases hb : b = C
          · rw [hb, sput_same, hC]
          · rw [sput_ne hb, h3 b n hb]
      rw [e1]
      exact h p np
    · obtain ⟨u3, u4, acc, rfl, h1, h2, h3, h5, h4⟩ := h0
      refine ⟨h2, fun nx step => ?_⟩
      rw [List.length_cons] at h5
      obtain ⟨k, v⟩ := e
      cases v with
      | none =>
        walk_at "go"
        refine step _ _ ⟨_, _, aDrop acc k, rfl, by rw [encD_del]; walk_at "st", by walk_at "st", fun b n1 n2 => by rw [sput_ne n1]; exact h3 b n1 n2, ?_, h4⟩
        have := aDrop_len (L := acc) (k := k)
        omega
      | some z =>
        have e5 : (kDel (encD .str acc) (Sum.inr k)).length < sizeLine := by
          rw [encD_del]
          have := aDrop_len (L := acc) (k := k)
          exact szD (by rw [Dn.encD_len]; omega)
        walk_at "go"
        refine step _ _ ⟨_, _, aPut (aDrop acc k) k z, rfl, by rw [encD_del, encD_put]; walk_at "st", by walk_at "st", fun b n1 n2 => by rw [sput_ne n1, sput_ne n1]; exact h3 b n1 n2, ?_, h4⟩
        have := aDrop_len (L := acc) (k := k)
        have := aPut_len (L := aDrop acc k) (k := k) z
        omega
end
end K17

open PySem PySem.Spec PyProof.Rows L2 Pr Dn LamX

namespace K17
/-- the tables of codes of law and commit -/
abbrev qlam : Str := (envOfC "law" (defScope s_law) 0 0 (.ref 0)).qual ++ "<lambda>"
abbrev qgen : Str := (envOfC "Shelf.commit" (defScope s_Shelf_commit) 0 0 (.ref 0)).qual ++ "<genexpr>"
abbrev PtL (K : PySem.W.Frag) : Addr := (He.cT K ("law", none)).2
abbrev PtC (K : PySem.W.Frag) : Addr := (He.cT K ("Shelf", some "commit")).2
abbrev tb (K : PySem.W.Frag) : List (Addr × Str) := [(PtL K, qlam), (PtC K, qgen)]
def rowsOf (a b : List (Str × Str)) (ks : List Str) : List Row3 := ks.filterMap fun k => if aGet a k = aGet b k then none else some (k, aGet a k, aGet b k)
/-- all other pages are told -/
def tellW {α : Type} (g : α → List (List Row3) → α) (f : α → List (List Row3)) (s : List (Str × α)) (page : Str) (r : List Row3) : List (Str × α) := s.map fun e => if e.1 = page ∨ r = [] then e else (e.1, g e.2 (f e.2 ++ [r]))
def tell (s : List (Str × List (List Row3))) (page : Str) (r : List Row3) : List (Str × List (List Row3)) := s.map fun e => if e.1 = page ∨ r = [] then e else (e.1, e.2 ++ [r])
def tellA (s : List (Str × (Addr × List (List Row3)))) (page : Str) (r : List Row3) : List (Str × (Addr × List (List Row3))) := s.map fun e => if e.1 = page ∨ r = [] then e else (e.1, (e.2.1, e.2.2 ++ [r]))
theorem pr_tell {s : List (Str × (Addr × List (List Row3)))} {page : Str} {r : List Row3} : pr (tellA s page r) = tell (pr s) page r := by
  unfold tellA tell Pr.pr
  rw [List.map_map, List.map_map]
  refine List.map_congr_left fun e _ => ?_
  by_cases h : e.1 = page ∨ r = []
  · simp only [Function.comp, if_pos h]
  · simp only [Function.comp, if_neg h]
theorem addr_tell {s : List (Str × (Addr × List (List Row3)))} {page : Str} {r : List Row3} : (tellA s page r).map (·.2.1) = s.map (·.2.1) := by
  unfold tellA
  rw [List.map_map]
  refine List.map_congr_left fun e _ => ?_
  by_cases h : e.1 = page ∨ r = []
  · simp only [Function.comp, if_pos h]
  · simp only [Function.comp, if_neg h]
theorem enc_tell {s : List (Str × (Addr × List (List Row3)))} {page : Str} {r : List Row3} : encD (fun p : Addr × List (List Row3) => Dt.ref p.1) (tellA s page r) = encD (fun p => Dt.ref p.1) s := by
  unfold tellA Dn.encD
  rw [List.map_map]
  refine List.map_congr_left fun e _ => ?_
  by_cases h : e.1 = page ∨ r = []
  · simp only [Function.comp, if_pos h]
  · simp only [Function.comp, if_neg h]
theorem keys_tell {s : List (Str × List (List Row3))} {page : Str} {r : List Row3} : (tell s page r).map (·.1) = s.map (·.1) := by
  unfold tell
  rw [List.map_map]
  refine List.map_congr_left fun e _ => ?_
  by_cases h : e.1 = page ∨ r = []
  · simp only [Function.comp, if_pos h]
  · simp only [Function.comp, if_neg h]
theorem getS {L : List (Str × Str)} {k : Str} : (kGet (encD .str L) (Sum.inr k)).getD .non = oS (aGet L k) := by
  rw [encD_get]
  cases aGet L k <;> rfl
theorem tells_row : Tells rowD 1 := by
  refine ⟨fun r => ?_, fun r s => ?_, fun r => ?_⟩
  · exact areDat_of fun d hd => by
      simp only [List.mem_cons, List.not_mem_nil, or_false] at hd
      rcases hd with rfl | rfl | rfl
      · rfl
      · exact tells_oS.dat _
      · exact tells_oS.dat _
  · obtain ⟨a, b, c⟩ := r
    obtain ⟨a', b', c'⟩ := s
    show PyData.eqvAll (pys [.str a, oS b, oS c]) (pys [.str a', oS b', oS c']) = _
    rw [eqvAll_cons, eqvAll_cons, eqvAll_cons, eqvAll_nil, tells_oS.eqv, tells_oS.eqv, show deqv (.str a) (.str a') = decide (a = a') from (tells_enc (α := Str)).eqv a a', Bool.eq_iff_iff]
    simp
  · exact tup_dep (pys_dep fun d hd => by
      simp only [List.mem_cons, List.not_mem_nil, or_false] at hd
      rcases hd with rfl | rfl | rfl
      · exact Nat.le_refl _
      · exact tells_oS.dep _
      · exact tells_oS.dep _)
theorem tells_rows : Tells rowsD 2 := tells_row.tup
def cCommit (K : PySem.W.Frag) : DSp := fun ds S q e => ∃ m A s page, ds = [.ref m, .str page] ∧ ShAt K S m A s ∧ TabX (tb K) S ∧ s.pages.length ≤ 100 ∧ s.rows.length ≤ 100 ∧ (∀ e ∈ s.pages, e.2.length ≤ 1000) ∧ Ift (s.on page && s.mine page)
  (∃ x l, s.change = some (x, l) ∧ l.length < 60 ∧ Ift (decide (500 < lenSum (afterOf s.rows l))) (Post K m A s S { s with change := none } (q (.bl false)))
    (∀ ks : List Str, ks.Perm (l.map (·.1)) → sortedS ks = true → Post K m A s S { rows := afterOf s.rows l, change := none, pages := tell s.pages page (rowsOf s.rows (afterOf s.rows l) ks) } (q (.bl true)))) (e (He.ga K "StoreError") S)
theorem aftS_nd {rows : List (Str × Str)} {e : Str × Option Str} (nd : (rows.map (·.1)).Nodup) : ((aftS rows e).map (·.1)).Nodup := by
  unfold aftS
  split
  · exact aDrop_nd nd
  · exact aPut_nd _ (aDrop_nd nd)
theorem after_nd : ∀ {L : List (Str × Option Str)} {rows : List (Str × Str)}, (rows.map (·.1)).Nodup → ((afterOf rows L).map (·.1)).Nodup
  | [], _, nd => nd
  | e :: r, _, nd => after_nd (L := r) (aftS_nd (e := e) nd)
section
variable {P : Program} {w : World} {K : PySem.W.Frag} {mg : Str → Option Value} {base : Heap}
theorem ok_commit (T : Tx K mg) (m_Shelf_owned : MetX P w K mg base 2 (He.ga K "Shelf") "owned" (spD K (cOwned K)) []) (m_Shelf_after : MetX P w K mg base 1 (He.ga K "Shelf") "after" (spD K (cAfter K)) []) (hne : PtL K ≠ PtC K) {f : Addr} {fd : FuncData} (F : FunD K "commit" "Shelf.commit" (defArgs s_Shelf_commit) (defBody s_Shelf_commit) (defScope s_Shelf_commit) [] [] f fd) (hTB : ∀ c, fd.code = .ref c → TabB base mg c (PtC K)) : FnOk P w K mg base (L2.CX P w) 3 f fd ["self", "page"] (spD K (cCommit K)) := by
  have hCT : (PtC K, qgen) ∈ tb K := List.mem_cons_of_mem _ List.mem_cons_self
  have hCu : ∀ p ∈ tb K, p.1 = PtC K → p.2 = qgen := fun p hp e => by
    rcases List.mem_cons.mp hp with rfl | hp
    · exact absurd e hne
    · rw [List.mem_singleton.mp hp]
  refine dfnC 7 F sc_Shelf_commit hTB (fun ds S q e h => ?_) rfl (fun c0 A outer s H E e TBC hr => ⟨_, (dss_cons (ds_set (i := 2) sc_Shelf_commit.nd rfl (Or.inl rfl) (de_meth (nm := nm_Shelf) rfl m_Shelf_owned (by decide +kernel) dfl_nil hr (by decide) paX (dv (pv 0)) (da_cons (dv (pv 1)) da_nil)))
  (dss_cons (ds_fld rfl (fd_Shelf_change T) (dv (pv 0)) de_non)
  (dss_cons (ds_set (i := 3) sc_Shelf_commit.nd rfl (Or.inl rfl) (de_meth (nm := nm_Shelf) rfl m_Shelf_after (by decide +kernel) dfl_nil hr (by decide) paX (dv (pv 0)) (da_cons (dv (pv 2)) da_nil)))
  (dss_cons (ds_if (dt_cmp od_gt (de_sumIt (T := tb K) rfl hr (by rfl) T.b_sum (by decide +kernel) TBC rfl hCT hCu (fun _ => gs2_by (by decide +kernel)) (dv (pv 3)) (fun M => elt_len2 M T.b_len rfl rfl (by rfl) (by decide +kernel) (by decide +kernel) (by decide) (by decide)) (fun _ => rfl)) (de_gcI rfl T.g_MOST_KEPT)) (dss_one (ds_ret de_bl)) dss_nil)
  (dss_cons (ds_set (i := 4) sc_Shelf_commit.nd rfl (Or.inl rfl) (de_lstO da_nil))
  (dss_cons (ds_for poX rfl (di_lst rfl (de_callB (cd_sortD rfl) (by rfl) T.b_sorted (by decide +kernel) (da_cons (de_fld rfl (fd_Change_rows T) (dv (pv 2))) da_nil))) (dg_name (i := 5) sc_Shelf_commit.nd rfl (Or.inl rfl)) (dss_one (ds_if (dt_cmp (od_ne rfl (hU_of hr)) (de_dget1 (hu_of hr) (de_fld rfl (fd_Shelf_rows T) (dv (pv 0))) (dv (pv 5)) ⟨by rfl, by rfl, by rfl, by rfl⟩) (de_dget1 (hu_of hr) (dv (pv 3)) (dv (pv 5)) ⟨by rfl, by rfl, by rfl, by rfl⟩)) (dss_one (ds_expr (de_bm rfl is_ls PySem.F.plainAttrs_list PySem.F.slot_list_append PySem.F.type_list_append md_append (dv (pv 4)) (da_cons (de_tup (da_cons (dv (pv 5)) (da_cons (de_dget1 (hu_of hr) (de_fld rfl (fd_Shelf_rows T) (dv (pv 0))) (dv (pv 5)) ⟨by rfl, by rfl, by rfl, by rfl⟩) (da_cons (de_dget1 (hu_of hr) (dv (pv 3)) (dv (pv 5)) ⟨by rfl, by rfl, by rfl, by rfl⟩) da_nil)))) da_nil)))) dss_nil)))
  (dss_cons (ds_fld rfl (fd_Shelf_rows T) (dv (pv 0)) (dv (pv 3)))
  (dss_cons (ds_for poX rfl (di_lst rfl (de_fld rfl (fd_Shelf_listening T) (dv (pv 0)))) (dg_name (i := 6) sc_Shelf_commit.nd rfl (Or.inl rfl)) (dss_one (ds_if (PW.pt (dt_and (dt_cmp (od_ne rfl (hU_of hr)) (dv (pv 6)) (dv (pv 1))) (pw_and1 (dt_cmp (od_neV rfl (hU_of hr)) (dv (pv 4)) (de_lst da_nil))))) (dss_one (ds_expr (de_bm rfl is_ls PySem.F.plainAttrs_list PySem.F.slot_list_append PySem.F.type_list_append md_append (de_dget (hu_of hr) (de_fld rfl (fd_Shelf_waiting T) (dv (pv 0))) (dv (pv 6)) (fun _ _ => rfl)) (da_cons (de_tupOf rfl (by rfl) T.b_tuple (dv (pv 4))) da_nil)))) dss_nil)))
  (dss_one (ds_ret de_bl)))))))))), fun ds S q h => ?_⟩)
  · obtain ⟨_, _, _, _, rfl, _⟩ := h
    rfl
  · obtain ⟨m, A, s, page, rfl, sh, tx, few, fewR, fewP, h⟩ := h
    obtain ⟨rws, ch, pages⟩ := s
    try dsimp only at h few fewR fewP
    have ins := sh.ins
    have rows := sh.rows
    have lst := sh.lst
    have wt := sh.wt
    dsimp only at ins rows lst
    walk_at "go"
    refine ⟨m, A, _, page, rfl, sh, ?_⟩
    refine ift_b (fun h1 => ?_) (fun h1 => ?_)
    · rw [h1] at h
      obtain ⟨x, l, hc0, fewL, h⟩ := h
      cases ch with
      | none => cases hc0
      | some c =>
        cases hc0
        have hc := sh.chg x l rfl
        walk_at "go"
        refine ⟨m, A.R, .non, .ref A.L, .ref A.W, .non, A.C, x, rws, l, rfl, by walk_at "st", by walk_at "st", by walk_at "st", by omega, fun p np => ?_⟩
        obtain ⟨npm, np⟩ := sput_free np
        have alen := after_len rws l
        walk_at "go"
        have noT : ∀ q, S m ≠ some (.tbl q) := fun q z => by rw [ins] at z; cases z
        have tx1 : TabX (tb K) (sput (sput S m (.ins (He.ga K "Shelf") nm_Shelf [.ref A.R, .non, .ref A.L, .ref A.W])) p (.dic (encD .str (afterOf rws l)))) := (tx.put noT fun q z => by cases z).put (fun q z => by rw [sput_ne npm, np] at z; cases z) fun q z => by cases z
        refine ⟨p, _, rfl, by walk_at "st", tx1, by omega, ?_⟩
        walk_at "go"
        refine ift (p := 500 < lenSum (afterOf rws l)) (fun h2 => ?_) (fun h2 => ?_)
        · rw [decide_eq_true h2] at h
          walk_at "go"
          refine Post.use h A ⟨by walk_at "su", by walk_at "su", by walk_at "su", by walk_at "su", fun x y z => (by cases z), sh.pr, fun e he => ?_, sh.ndk, sh.ndr, fun x y z => (by cases z), sh.nda, sh.rw, fun x y z => (by cases z)⟩ ((Frm.refl.mut (by simp [own])).own np) (fun b hb => .inl ?_)
          · have we := sh.wl e he
            walk_at "su"
          · simp only [own, chA, List.mem_cons, List.mem_append, List.nil_append] at hb ⊢
            rcases hb with hb | hb | hb | hb | hb <;> simp [hb]
        · rw [decide_eq_false h2] at h
          walk_at "go"
          intro pr npr
          obtain ⟨npr1, npr⟩ := sput_free npr
          obtain ⟨npr2, npr⟩ := sput_free npr
          walk_at "go"
          refine ⟨l.map (·.1), by rw [encD_keys], by rw [List.length_map]; omega, fun ks perm srt => ?_⟩
          have h := h ks perm srt
          have fewK : ks.length < 60 := by rw [perm.length_eq, List.length_map]; exact fewL
          walk_at "go"
          generalize hS0 : sput (sput S m (.ins (He.ga K "Shelf") nm_Shelf [.ref A.R, .non, .ref A.L, .ref A.W])) p (.dic (encD .str (afterOf rws l))) = S0
          have z1 : S0 m = some (.ins (He.ga K "Shelf") nm_Shelf [.ref A.R, .non, .ref A.L, .ref A.W]) := by rw [← hS0]; walk_at "st"
          have z2 : S0 p = some (.dic (encD .str (afterOf rws l))) := by rw [← hS0]; walk_at "st"
          have z3 : S0 A.R = some (.dic (encD .str rws)) := by rw [← hS0]; walk_at "st"
          have z4 : S0 A.L = some (.lst (pages.map fun p => .str p.1)) := by rw [← hS0]; walk_at "st"
          have z5 : S0 A.W = some (.dic (encD (fun p => .ref p.1) A.ws)) := by rw [← hS0]; walk_at "st"
          have z6 : S0 pr = none := by rw [← hS0, sput_ne npr1, sput_ne npr2]; exact npr
          have z7 : ∀ b, b ≠ m → b ≠ p → S0 b = S b := fun b n1 n2 => by rw [← hS0, sput_ne n2, sput_ne n1]
          generalize hRR : rowsOf rws (afterOf rws l) ks = RR at h
          refine forGo_ind Dt.str (fun r δ S' => ∃ u5 u6 acc, δ = [some (.ref m), some (.str page), some (chD K A (some (x, l))), some (.ref p), some (.ref pr), u5, u6] ∧ S' = sput S0 pr (.lst (acc.map rowD)) ∧ acc.length + r.length ≤ 60 ∧ acc ++ rowsOf rws (afterOf rws l) r = RR) (fun δ S' h0 => ?_) (fun k r δ S' h0 => ?_) ks _ _ ⟨_, _, [], rfl, rfl, by simp; omega, ?_⟩
          · obtain ⟨u5, u6, acc, rfl, rfl, h5, h6⟩ := h0
            refine ⟨trivial, ?_⟩
            walk_at "go"
            obtain rfl : acc = RR := by rw [← h6]; simp [rowsOf]
            have rw_ := sh.rw
            have nd := List.nodup_cons.mp sh.nda
            have wsS : ∀ e ∈ A.ws, S0 e.2.1 = some (.lst (e.2.2.map rowsD)) := fun e he => by
              have we := sh.wl e he
              rw [z7 _ (by walk_at "ne") (by walk_at "ne")]
              exact we
            generalize hS3 : sput (sput S0 pr (.lst (acc.map rowD))) m (.ins (He.ga K "Shelf") nm_Shelf [.ref p, .non, .ref A.L, .ref A.W]) = S3
            have y1 : S3 m = some (.ins (He.ga K "Shelf") nm_Shelf [.ref p, .non, .ref A.L, .ref A.W]) := by rw [← hS3]; walk_at "st"
            have y2 : S3 pr = some (.lst (acc.map rowD)) := by rw [← hS3]; walk_at "st"
            have y3 : S3 p = some (.dic (encD .str (afterOf rws l))) := by rw [← hS3]; walk_at "st"
            have y4 : S3 A.L = some (.lst (pages.map fun p => .str p.1)) := by rw [← hS3]; walk_at "st"
            have y5 : S3 A.W = some (.dic (encD (fun p => .ref p.1) A.ws)) := by rw [← hS3]; walk_at "st"
            have y6 : ∀ e ∈ A.ws, S3 e.2.1 = some (.lst (e.2.2.map rowsD)) := fun e he => by
              have we := wsS e he
              rw [← hS3]
              walk_at "st"
            have y7 : ∀ b, b ≠ m → b ≠ p → b ≠ pr → S3 b = S b := fun b n1 n2 n3 => by rw [← hS3, sput_ne n1, sput_ne n3, z7 b n1 n2]
            have prw : ∀ e ∈ A.ws, e.2.1 ≠ pr := fun e he => by
              have we := wsS e he
              walk_at "ne"
            refine forGo_ind (fun p : Str × List (List Row3) => Dt.str p.1) (fun r δ S' => ∃ u5 u6, δ = [some (.ref m), some (.str page), some (chD K A (some (x, l))), some (.ref p), some (.ref pr), u5, u6] ∧ (∀ b, b ∉ A.ws.map (·.2.1) → S' b = S3 b) ∧ (∀ e ∈ A.ws, S' e.2.1 = some (.lst ((if e.1 ∈ r.map (·.1) ∨ e.1 = page ∨ acc = [] then e.2.2 else e.2.2 ++ [acc]).map rowsD))) ∧ (∀ e ∈ r, e ∈ pages) ∧ (r.map (·.1)).Nodup) (fun δ S' h0 => ?_) (fun y r δ S' h0 => ?_) pages _ _ ⟨_, _, rfl, fun b _ => rfl, fun e he => ?_, fun e he => he, sh.ndk⟩
            · obtain ⟨u5', u6', rfl, i1, i2, _, _⟩ := h0
              have iL : S' A.L = some (.lst (pages.map fun p => .str p.1)) := by rw [i1 _ nd.1]; exact y4
              refine ⟨iL, ?_⟩
              walk_at "go"
              have mN : ∀ {b c}, S3 b = some c → (∀ l, c ≠ .lst l) → S' b = some c := fun {b c} hb hc => by
                rw [i1 b fun z => ?_]
                · exact hb
                · obtain ⟨e, he, z⟩ := List.mem_map.mp z
                  have := y6 e he
                  rw [z, hb] at this
                  exact hc _ (Option.some.inj this)
              refine Post.use h ⟨p, A.L, A.W, A.C, tellA A.ws page acc⟩ ⟨mN y1 (fun _ z => by cases z), mN y3 (fun _ z => by cases z), ?_, ?_, fun x y z => (by cases z), ?_, fun e he => ?_, ?_, after_nd sh.ndr, fun x y z => (by cases z), ?_, (ne_free wt np).symm, fun x y z => (by cases z)⟩ ⟨fun b c hb hn => ?_, fun b q hb => ?_⟩ (fun b hb => ?_)
              · rw [iL, keys_map, keys_map, keys_tell]
              · rw [enc_tell]
                exact mN y5 (fun _ z => by cases z)
              · rw [pr_tell, sh.pr]
              · obtain ⟨e0, he0, rfl⟩ := List.mem_map.mp he
                have := i2 e0 he0
                by_cases hc : e0.1 = page ∨ acc = []
                · rw [if_pos (.inr hc)] at this
                  rw [if_pos hc]
                  exact this
                · rw [if_neg fun z => hc (z.elim (fun z => by cases z) id)] at this
                  rw [if_neg hc]
                  exact this
              · rw [keys_tell]
                exact sh.ndk
              · rw [addr_tell]
                exact sh.nda
              · simp only [own, List.mem_cons, List.mem_append, not_or] at hn
                rw [i1 b hn.2.2.2.2.2, y7 b hn.1 (ne_free hb np) (ne_free hb npr)]
                exact hb
              · rw [i1 b fun z => ?_] at hb
                · rw [← y7 b (fun z => by rw [z, y1] at hb; cases hb) (fun z => by rw [z, y3] at hb; cases hb) (fun z => by rw [z, y2] at hb; cases hb)]
                  exact hb
                · obtain ⟨e, he, z⟩ := List.mem_map.mp z
                  have := i2 e he
                  rw [z, hb] at this
                  cases this
              · simp only [own, chA, List.mem_cons, List.mem_append, List.nil_append, addr_tell] at hb ⊢
                rcases hb with hb | hb | hb | hb | hb
                · simp [hb]
                · exact .inr (by rw [hb]; exact np)
                · simp [hb]
                · simp [hb]
                · exact .inl (.inr (.inr (.inr (.inr (.inr hb)))))
            · obtain ⟨u5', u6', rfl, i1, i2, i3, i4⟩ := h0
              have iL : S' A.L = some (.lst (pages.map fun p => .str p.1)) := by rw [i1 _ nd.1]; exact y4
              refine ⟨iL, fun nx step => ?_⟩
              rw [List.map_cons] at i4
              obtain ⟨n4, i4⟩ := List.nodup_cons.mp i4
              have ipr : S' pr = some (.lst (acc.map rowD)) := by
                rw [i1 _ fun z => ?_]
                · exact y2
                · obtain ⟨e, he, z⟩ := List.mem_map.mp z
                  exact prw e he z
              have iW : S' A.W = some (.dic (encD (fun p => .ref p.1) A.ws)) := by
                rw [i1 _ fun z => ?_]
                · exact y5
                · obtain ⟨e, he, z⟩ := List.mem_map.mp z
                  have := y6 e he
                  rw [z, y5] at this
                  cases this
              have im : S' m = some (.ins (He.ga K "Shelf") nm_Shelf [.ref p, .non, .ref A.L, .ref A.W]) := by
                rw [i1 _ fun z => ?_]
                · exact y1
                · obtain ⟨e, he, z⟩ := List.mem_map.mp z
                  have := y6 e he
                  rw [z, y1] at this
                  cases this
              have quiet : (y.1 = page ∨ acc = []) → ∀ e ∈ A.ws, S' e.2.1 = some (.lst ((if e.1 ∈ r.map (·.1) ∨ e.1 = page ∨ acc = [] then e.2.2 else e.2.2 ++ [acc]).map rowsD)) := fun hy e he => by
                rw [i2 e he]
                by_cases hc : e.1 ∈ r.map (·.1) ∨ e.1 = page ∨ acc = []
                · rw [if_pos hc, if_pos]
                  rcases hc with hc | hc
                  · exact .inl (List.mem_cons_of_mem _ hc)
                  · exact .inr hc
                · rw [if_neg hc, if_neg fun z => hc ?_]
                  rcases z with z | z
                  · rcases List.mem_cons.mp z with z | z
                    · rcases hy with hy | hy
                      · exact .inr (.inl (z.trans hy))
                      · exact .inr (.inr hy)
                    · exact .inl z
                  · exact .inr z
              walk_at "go"
              refine iftN (p := y.1 = page) (fun h7 => ?_) (fun h7 => ?_)
              · walk_at "go"
                refine (tells_row.lst).ne (a := acc) (b := []) (by decide) ?_
                walk_at "go"
                refine iftN (p := acc = []) (fun h8 => ?_) (fun h8 => ?_)
                · have hy := i3 y List.mem_cons_self
                  have hl := fewP y hy
                  obtain ⟨a, ha, hm, _, hk⟩ := sh.ws_get (p := y.1) (l := y.2) (aGet_of_mem sh.ndk hy)
                  have ia : S' a = some (.lst (y.2.map rowsD)) := by
                    have := i2 _ hm
                    rw [if_pos (.inl List.mem_cons_self)] at this
                    exact this
                  walk_at "go"
                  refine ⟨_, hk, ?_⟩
                  walk_at "go"
                  refine step _ _ ⟨_, _, rfl, fun b hb => ?_, fun e he => ?_, fun e he => i3 e (List.mem_cons_of_mem _ he), i4⟩
                  · rw [sput_ne fun z => hb (List.mem_map.mpr ⟨_, hm, z.symm⟩)]
                    exact i1 b hb
                  · by_cases hea : e.2.1 = a
                    · obtain rfl : e = (y.1, (a, y.2)) := nd_inj nd.2 he hm hea
                      rw [sput_same, if_neg]
                      · rw [List.map_append]
                        rfl
                      · rintro (z | z | z)
                        · exact n4 z
                        · exact h7 z
                        · exact h8 z
                    · rw [sput_ne hea, i2 e he]
                      have hey : e.1 ≠ y.1 := fun z => hea (by
                        have : e = (y.1, (a, y.2)) := nd_inj (f := fun e : Str × (Addr × List (List Row3)) => e.1) (by rw [sh.keys]; exact sh.ndk) he hm z
                        rw [this])
                      by_cases hc : e.1 ∈ r.map (·.1) ∨ e.1 = page ∨ acc = []
                      · rw [if_pos hc, if_pos]
                        rcases hc with hc | hc
                        · exact .inl (List.mem_cons_of_mem _ hc)
                        · exact .inr hc
                      · rw [if_neg hc, if_neg fun z => hc ?_]
                        rcases z with z | z
                        · rcases List.mem_cons.mp z with z | z
                          · exact absurd z hey
                          · exact .inl z
                        · exact .inr z
                · walk_at "go"
                  exact step _ _ ⟨_, _, rfl, i1, quiet (.inr h8), fun e he => i3 e (List.mem_cons_of_mem _ he), i4⟩
              · walk_at "go"
                exact step _ _ ⟨_, _, rfl, i1, quiet (.inl h7), fun e he => i3 e (List.mem_cons_of_mem _ he), i4⟩
            · rw [y6 e he]
              have : e.1 ∈ pages.map (·.1) := by rw [← sh.keys]; exact List.mem_map.mpr ⟨e, he, rfl⟩
              rw [if_pos (.inl this)]
          · obtain ⟨u5, u6, acc, rfl, rfl, h5, h6⟩ := h0
            refine ⟨trivial, fun nx step => ?_⟩
            rw [List.length_cons] at h5
            walk_at "go"
            rw [getS, getS]
            refine tells_oS.ne (by decide) ?_
            walk_at "go"
            refine iftN (p := aGet rws k = aGet (afterOf rws l) k) (fun h7 => ?_) (fun h7 => ?_)
            · walk_at "go"
              rw [sput_sput, getS, getS]
              refine step _ _ ⟨_, _, acc ++ [(k, aGet rws k, aGet (afterOf rws l) k)], rfl, by rw [List.map_append]; rfl, by rw [List.length_append]; simp; omega, ?_⟩
              rw [← h6]
              show _ = acc ++ List.filterMap _ (k :: r)
              rw [List.filterMap_cons_some (by rw [if_neg h7])]
              simp [rowsOf]
            · walk_at "go"
              refine step _ _ ⟨_, _, acc, rfl, rfl, by omega, ?_⟩
              rw [← h6]
              show _ = acc ++ List.filterMap _ (k :: r)
              rw [List.filterMap_cons_none (by rw [if_pos h7])]
              rfl
          · simpa using hRR
    · rw [h1] at h
      exact h
end
end K17

open PySem PySem.Spec PyProof.Rows L2 Pr Dn LamX

namespace K17
theorem after_eq : ∀ {L : List (Str × Option Str)} {rows : List (Str × Str)}, (L.map (·.1)).Nodup → afterOf rows L = rows.filter (fun e => decide (e.1 ∉ L.map (·.1))) ++ L.filterMap fun e => e.2.map fun z => (e.1, z)
  | [], rows, _ => by
    show rows = rows.filter (fun e => decide (e.1 ∉ [])) ++ []
    rw [List.append_nil, List.filter_eq_self.mpr fun e _ => by simp]
  | e :: r, rows, nd => by
    rw [List.map_cons] at nd
    obtain ⟨n1, n2⟩ := List.nodup_cons.mp nd
    show afterOf (aftS rows e) r = _
    rw [after_eq n2]
    obtain ⟨k, v⟩ := e
    have e1 : (aDrop rows k).filter (fun e => decide (e.1 ∉ r.map (·.1))) = rows.filter fun e => decide (e.1 ∉ ((k, v) :: r).map (·.1)) := by
      unfold aDrop
      rw [List.filter_filter]
      refine List.filter_congr fun x _ => ?_
      rw [Bool.eq_iff_iff]
      simp [and_comm]
    cases v with
    | none =>
      show (aDrop rows k).filter _ ++ _ = _
      rw [e1]
      rfl
    | some z =>
      show (aPut (aDrop rows k) k z).filter _ ++ _ = _
      rw [aPut_new _ (by rw [aGet_drop, if_pos rfl]), List.filter_append, e1]
      rw [List.filter_cons_of_pos (by simpa using n1), List.append_assoc]
      rfl
def cLawAfter : DSp := fun ds S q _ => ∃ R C rows L, ds = [.ref R, .ref C] ∧ S R = some (.dic (encD .str rows)) ∧ S C = some (.dic (encD oS L)) ∧ (rows.map (·.1)).Nodup ∧ (L.map (·.1)).Nodup ∧ rows.length ≤ 1000 ∧ L.length ≤ 1000 ∧ R ≠ C ∧
  ∀ p S', S p = none → S' p = some (.dic (encD .str (afterOf rows L))) → Frm [] S S' → q (.ref p) S'
section
variable {P : Program} {w : World} {K : PySem.W.Frag} {mg : Str → Option Value} {base : Heap}
theorem ok_lawAfter (T : Tx K mg) {f : Addr} {fd : FuncData} (F : FunD K "_law_after" "_law_after" (defArgs s_law_after) (defBody s_law_after) (defScope s_law_after) [] [] f fd) : FnOk P w K mg base (L2.CX P w) 1 f fd ["rows", "change"] (spD K cLawAfter) := by
  refine dfn 4 F sc_law_after (fun ds S q e h => ?_) rfl (fun cdv A outer s H E e hr => ⟨_, (dss_cons (ds_set (i := 2) sc_law_after.nd rfl (Or.inl rfl) (de_callTy (cd_pairsO rfl rfl) (by rfl) T.b_dict (by decide +kernel) (da_cons (de_lock (de_lc (own := [("key", 3)]) rfl sc_law_after.nd (di_keys (dv (pv 0))) (blkOk_by (own := [("key", 3)]) (N := sl_law_after) (sc := defScope s_law_after) (by decide +kernel)) (fun _ _ _ _ _ => (gw_name (i := 3) sc_law_after.nd rfl (Or.inl rfl) (by decide))) (fun _ _ _ _ _ => (ts_one (dt_dnotin (hu_of hr) (dv (pv 3)) (dv (pv 1))))) (fun _ _ _ _ _ => (de_tup (da_cons (dv (pv 3)) (da_cons (de_dget (hu_of hr) (dv (pv 0)) (dv (pv 3)) (fun _ _ => rfl)) da_nil)))))) da_nil)))
  (dss_one (ds_ret (de_callTy (cd_pairsO rfl rfl) (by rfl) T.b_dict (by decide +kernel) (da_cons (de_op (od_add rfl) (de_listItems rfl (dv (pv 2)) (by rfl) T.b_list (by decide +kernel)) (de_lock (de_lc (own := [("key", 3)]) rfl sc_law_after.nd (di_keys (dv (pv 1))) (blkOk_by (own := [("key", 3)]) (N := sl_law_after) (sc := defScope s_law_after) (by decide +kernel)) (fun _ _ _ _ _ => (gw_name (i := 3) sc_law_after.nd rfl (Or.inl rfl) (by decide))) (fun _ _ _ _ _ => (ts_one (dt_cmp od_isNot (de_dget (hu_of hr) (dv (pv 1)) (dv (pv 3)) (fun _ _ => rfl)) de_non))) (fun _ _ _ _ _ => (de_tup (da_cons (dv (pv 3)) (da_cons (de_dget (hu_of hr) (dv (pv 1)) (dv (pv 3)) (fun _ _ => rfl)) da_nil))))))) da_nil))))), fun ds S q h => ?_⟩)
  · obtain ⟨_, _, _, _, rfl, _⟩ := h
    rfl
  · obtain ⟨R, C, rows, L, rfl, hR, hC, n1, n2, l1, l2, nRC, h⟩ := h
    walk_at "go"
    refine ⟨R, _, hR, fun o => ?_⟩
    walk_at "go"
    rw [keys_encD]
    refine lcGo_pure (fun e : Str × Str => Dt.str e.1) (fun e => if e.1 ∈ L.map (·.1) then none else some (.tup [.str e.1, .str e.2])) sput_same rows [] (fun x hx kY kN h3 h4 => ?_) ?_
    · walk_at "go"
      rw [has_enc]
      refine iftN (p := x.1 ∈ L.map (·.1)) (fun h5 => ?_) (fun h5 => ?_)
      · walk_at "go"
        refine ⟨_, get_enc n1 hx, ?_⟩
        exact h3 _ (if_neg h5)
      · exact h4 (if_pos h5)
    · rw [List.nil_append]
      refine ⟨sput_same, ?_⟩
      rw [sput_back hR]
      walk_at "go"
      have nd1 : ((rows.filter fun e => decide (¬ e.1 ∈ L.map (·.1))).map (·.1)).Nodup := n1.sublist (List.filter_sublist.map _)
      refine ⟨encD .str (rows.filter fun e => decide (¬ e.1 ∈ L.map (·.1))), by rw [fm_if, items_encD], fun p np => ?_⟩
      rw [encD_merge nd1]
      walk_at "go"
      rw [items_encD]
      refine ⟨C, _, by walk_at "st", fun o' => ?_⟩
      walk_at "go"
      rw [keys_encD]
      refine lcGo_pure (fun e : Str × Option Str => Dt.str e.1) (fun e => e.2.map fun z => Dt.tup [.str e.1, .str z]) sput_same L [] (fun x hx kY kN h3 h4 => ?_) ?_
      · obtain ⟨k, v⟩ := x
        walk_at "go"
        have g1 := get_enc (g := oS) n2 hx
        refine ⟨_, g1, ?_⟩
        cases v with
        | none =>
          walk_at "go"
          exact h4 rfl
        | some z =>
          walk_at "go"
          refine ⟨_, g1, ?_⟩
          exact h3 _ rfl
      · rw [List.nil_append]
        refine ⟨sput_same, ?_⟩
        walk_at "go"
        have e3 : (L.filterMap fun e => e.2.map fun z => Dt.tup [.str e.1, .str z]) = ((L.filterMap fun e => e.2.map fun z => (e.1, z)).map fun e => Dt.tup [.str e.1, .str e.2]) := by
          rw [List.map_filterMap]
          refine congrArg (fun f => L.filterMap f) (funext fun e => ?_)
          cases e.2 <;> rfl
        have e4 : ((rows.filter fun e => decide (¬ e.1 ∈ L.map (·.1))) ++ L.filterMap fun e => e.2.map fun z => (e.1, z)) = afterOf rows L := (after_eq n2).symm
        have nd2 := after_nd (L := L) n1
        have ln : (afterOf rows L).length ≤ 2000 := by
          have := after_len rows L
          omega
        rw [e3, ← List.length_append, ← List.map_append, e4, List.length_map]
        refine ⟨szl (by omega), ?_⟩
        walk_at "go"
        refine ⟨encD .str (afterOf rows L), by rw [items_encD], fun p2 np2 => ?_⟩
        rw [encD_merge nd2]
        rw [sput_back (by walk_at "st")] at np2 ⊢
        obtain ⟨np3, np4⟩ := sput_free np2
        exact h p2 _ np4 sput_same ((Frm.refl.own np).own np4)
end
end K17

open PySem PySem.Spec PyProof.Rows L2 Pr Dn LamX

namespace K17
structure Ow where
  r : Addr
  t : Addr
  c : Addr
@[reducible] def chO (B : Ow) : Option (Str × List (Str × Option Str)) → Dt
  | none => .non
  | some (p, _) => .tup [.str p, .ref B.c]
@[reducible] def rec3 (a b c : Dt) : List (Key × Dt) := [(Sum.inr "rows", a), (Sum.inr "change", b), (Sum.inr "told", c)]
theorem og1 {a b c : Dt} : kGet (rec3 a b c) (Sum.inr "rows") = some a := rfl
theorem og2 {a b c : Dt} : kGet (rec3 a b c) (Sum.inr "change") = some b := rfl
theorem og3 {a b c : Dt} : kGet (rec3 a b c) (Sum.inr "told") = some c := rfl
theorem op1 {a b c d : Dt} : kPut (rec3 a b c) (Sum.inr "rows") d = rec3 d b c := rfl
theorem op2 {a b c d : Dt} : kPut (rec3 a b c) (Sum.inr "change") d = rec3 a d c := rfl
theorem op3 {a b c d : Dt} : kPut (rec3 a b c) (Sum.inr "told") d = rec3 a b d := rfl
@[reducible] def toldD (l : List (List Row3)) : Dt := .lst (l.map rowsD)
def chB (B : Ow) (s : Sh) : List Addr := match s.change with
  | none => []
  | some _ => [B.c]
def owA (o : Addr) (B : Ow) (s : Sh) : List Addr := o :: B.r :: B.t :: chB B s
/-- the law's own shelf -/
structure OwAt (S : Store) (o : Addr) (B : Ow) (s : Sh) : Prop where
  own : S o = some (.dic (rec3 (.ref B.r) (chO B s.change) (.ref B.t)))
  rows : S B.r = some (.dic (encD .str s.rows))
  told : S B.t = some (.dic (encD toldD s.pages))
  chg : ∀ p l, s.change = some (p, l) → S B.c = some (.dic (encD oS l))
  ort : o ≠ B.r ∧ o ≠ B.t ∧ B.r ≠ B.t
  cd : ∀ p l, s.change = some (p, l) → B.c ≠ o ∧ B.c ≠ B.r ∧ B.c ≠ B.t
def PostO (o : Addr) (B : Ow) (s : Sh) (S : Store) (s' : Sh) (q : Store → Prop) : Prop := ∀ B' S', OwAt S' o B' s' → Frm (owA o B s) S S' → NewA (owA o B s) (owA o B' s') S → q S'
theorem PostO.use {o : Addr} {B : Ow} {s : Sh} {S S' : Store} {s' : Sh} {q : Store → Prop} (h : PostO o B s S s' q) (B' : Ow) (w : OwAt S' o B' s') (k : Frm (owA o B s) S S') (n : NewA (owA o B s) (owA o B' s') S) : q S' := h B' S' w k n
structure ShOk (s : Sh) : Prop where
  ndk : (s.pages.map (·.1)).Nodup
  ndr : (s.rows.map (·.1)).Nodup
  ndc : ∀ p l, s.change = some (p, l) → (l.map (·.1)).Nodup
  lp : s.pages.length ≤ 50
  lr : s.rows.length ≤ 50
  lc : ∀ p l, s.change = some (p, l) → l.length ≤ 50
  lw : ∀ e ∈ s.pages, e.2.length ≤ 1000
def cKept : DSp := fun ds S q _ => ∃ o B s page x l, ds = [.ref o, .str page] ∧ OwAt S o B s ∧ ShOk s ∧ s.change = some (x, l) ∧ Ift (decide (500 < lenSum (afterOf s.rows l))) (PostO o B s S { s with change := none } (q (.bl false)))
    (∃ ks : List Str, ks.Perm (l.map (·.1)) ∧ sortedS ks = true ∧ PostO o B s S { rows := afterOf s.rows l, change := none, pages := tell s.pages page (rowsOf s.rows (afterOf s.rows l) ks) } (q (.bl true)))
theorem rowsD_eq {a b : List (Str × Str)} {ks : List Str} : Dt.tup (ks.filterMap fun k => if aGet a k = aGet b k then none else some (Dt.tup [.str k, oS (aGet a k), oS (aGet b k)])) = rowsD (rowsOf a b ks) := by
  unfold rowsD rowsOf
  rw [List.map_filterMap]
  refine congrArg (fun f => Dt.tup (ks.filterMap f)) (funext fun k => ?_)
  by_cases h : aGet a k = aGet b k
  · rw [if_pos h, if_pos h]
    rfl
  · rw [if_neg h, if_neg h]
    rfl
/-- those behind are told -/
def tellR (s : List (Str × List (List Row3))) (page : Str) (r : List Row3) (ks : List Str) : List (Str × List (List Row3)) := s.map fun e => if e.1 ∈ ks ∨ e.1 = page ∨ r = [] then e else (e.1, e.2 ++ [r])
theorem tellR_all {s : List (Str × List (List Row3))} {page : Str} {r : List Row3} : tellR s page r (s.map (·.1)) = s := by
  have h := List.map_congr_left (l := s) (f := fun e => if e.1 ∈ s.map (·.1) ∨ e.1 = page ∨ r = [] then e else (e.1, e.2 ++ [r])) (g := id) fun e he => if_pos (.inl (List.mem_map.mpr ⟨e, he, rfl⟩))
  rw [List.map_id] at h
  exact h
theorem tellR_nil {s : List (Str × List (List Row3))} {page : Str} {r : List Row3} : tellR s page r [] = tell s page r := by
  unfold tellR tell
  refine List.map_congr_left fun e _ => ?_
  by_cases h : e.1 = page ∨ r = []
  · rw [if_pos (.inr h), if_pos h]
  · rw [if_neg (fun z => h (z.elim (fun z => by cases z) id)), if_neg h]
theorem tellR_same {s : List (Str × List (List Row3))} {page y : Str} {r : List Row3} {ks : List Str} (h : y = page ∨ r = []) : tellR s page r (y :: ks) = tellR s page r ks := by
  unfold tellR
  refine List.map_congr_left fun e _ => ?_
  by_cases hc : e.1 ∈ ks ∨ e.1 = page ∨ r = []
  · rw [if_pos hc, if_pos (hc.imp_left (List.mem_cons_of_mem _))]
  · rw [if_neg hc, if_neg fun z => hc ?_]
    rcases z with z | z
    · rcases List.mem_cons.mp z with z | z
      · rcases h with h | h
        · exact .inr (.inl (z.trans h))
        · exact .inr (.inr h)
      · exact .inl z
    · exact .inr z
theorem tellR_keys {s : List (Str × List (List Row3))} {page : Str} {r : List Row3} {ks : List Str} : (tellR s page r ks).map (·.1) = s.map (·.1) := by
  unfold tellR
  rw [List.map_map]
  refine List.map_congr_left fun e _ => ?_
  by_cases h : e.1 ∈ ks ∨ e.1 = page ∨ r = []
  · simp only [Function.comp, if_pos h]
  · simp only [Function.comp, if_neg h]
theorem tellR_get {s : List (Str × List (List Row3))} {page : Str} {r : List Row3} {y : Str × List (List Row3)} {ks : List Str} (nd : (s.map (·.1)).Nodup) (h : y ∈ s) : y ∈ tellR s page r (y.1 :: ks) := by
  unfold tellR
  exact List.mem_map.mpr ⟨y, h, if_pos (.inl List.mem_cons_self)⟩
theorem tellR_put {s : List (Str × List (List Row3))} {page : Str} {r : List Row3} {y : Str × List (List Row3)} {ks : List Str} (nd : (s.map (·.1)).Nodup) (h : y ∈ s) (n1 : y.1 ≠ page) (n2 : r ≠ []) (n3 : y.1 ∉ ks) : aPut (tellR s page r (y.1 :: ks)) y.1 (y.2 ++ [r]) = tellR s page r ks := by
  unfold aPut
  rw [if_pos (List.any_eq_true.mpr ⟨y, tellR_get nd h, decide_eq_true rfl⟩)]
  unfold tellR
  rw [List.map_map]
  refine List.map_congr_left fun e he => ?_
  by_cases hy : e.1 = y.1
  · obtain rfl : e = y := nd_inj nd he h hy
    have n4 : ¬ (e.1 ∈ ks ∨ e.1 = page ∨ r = []) := by
      rintro (z | z | z)
      · exact n3 z
      · exact n1 z
      · exact n2 z
    rw [if_neg n4]
    simp
  · by_cases hc : e.1 ∈ ks ∨ e.1 = page ∨ r = []
    · rw [if_pos hc]
      simp only [Function.comp, if_pos (hc.imp_left (List.mem_cons_of_mem y.1))]
      rw [if_neg hy]
    · have hc2 : ¬ (e.1 ∈ y.1 :: ks ∨ e.1 = page ∨ r = []) := fun z => hc (by
        rcases z with z | z
        · rcases List.mem_cons.mp z with z | z
          · exact absurd z hy
          · exact .inl z
        · exact .inr z)
      rw [if_neg hc]
      simp only [Function.comp, if_neg hc2]
      rw [if_neg hy]
section
variable {P : Program} {w : World} {K : PySem.W.Frag} {mg : Str → Option Value} {base : Heap}
local macro_rules | `(tactic| walk_at "q") => `(tactic| first
  | ((with_reducible show ∃ d, kGet (_ :: _) _ = some d ∧ _); refine ⟨_, by first | exact og1 | exact og2 | exact og3, ?_⟩))
theorem ok_kept (T : Tx K mg) (c__law_after : CalX P w K mg base 1 "_law_after" (spD K cLawAfter) []) {f : Addr} {fd : FuncData} (F : FunD K "_law_kept" "_law_kept" (defArgs s_law_kept) (defBody s_law_kept) (defScope s_law_kept) [] [] f fd) : FnOk P w K mg base (L2.CX P w) 2 f fd ["own", "page"] (spD K cKept) := by
  refine dfn 8 F sc_law_kept (fun ds S q e h => ?_) rfl (fun cdv A outer s H E e hr => ⟨_, (dss_cons (ds_set (i := 2) sc_law_kept.nd rfl (Or.inr rfl) (de_call rfl c__law_after dfl_nil hr (by decide) rfl paX (da_cons (de_dget (hu_of hr) (dv (pv 0)) de_str (fun _ _ => rfl)) (da_cons (de_ixC (n := 1) rfl (de_dget (hu_of hr) (dv (pv 0)) de_str (fun _ _ => rfl))) da_nil))))
  (dss_cons (ds_set (i := 3) sc_law_kept.nd rfl (Or.inr rfl) (de_dget (hu_of hr) (dv (pv 0)) de_str (fun _ _ => rfl)))
  (dss_cons (ds_set (i := 4) sc_law_kept.nd rfl (Or.inl rfl) (de_tupOf rfl (by rfl) T.b_tuple (de_lc (own := [("key", 7)]) rfl sc_law_kept.nd (di_lst rfl (de_callB (cd_sortD rfl) (by rfl) T.b_sorted (by decide +kernel) (da_cons (de_ixC (n := 1) rfl (de_dget (hu_of hr) (dv (pv 0)) de_str (fun _ _ => rfl))) da_nil))) (blkOk_by (own := [("key", 7)]) (N := sl_law_kept) (sc := defScope s_law_kept) (by decide +kernel)) (fun _ _ _ _ _ => (gw_name (i := 7) sc_law_kept.nd rfl (Or.inl rfl) (by decide))) (fun _ _ _ _ _ => (ts_one (dt_cmp (od_ne rfl (hU_of hr)) (de_dget1 (hu_of hr) (dv (pv 3)) (dv (pv 7)) ⟨by rfl, by rfl, by rfl, by rfl⟩) (de_dget1 (hu_of hr) (dv (pv 2)) (dv (pv 7)) ⟨by rfl, by rfl, by rfl, by rfl⟩)))) (fun _ _ _ _ _ => (de_tup (da_cons (dv (pv 7)) (da_cons (de_dget1 (hu_of hr) (dv (pv 3)) (dv (pv 7)) ⟨by rfl, by rfl, by rfl, by rfl⟩) (da_cons (de_dget1 (hu_of hr) (dv (pv 2)) (dv (pv 7)) ⟨by rfl, by rfl, by rfl, by rfl⟩) da_nil))))))))
  (dss_cons (ds_asg de_non (dg_subD (hu_of hr) (dv (pv 0)) de_str))
  (dss_cons (ds_if (dt_cmp od_gt (de_callB (cd_sum rfl rfl) (by rfl) T.b_sum (by decide +kernel) (da_cons (de_lock (de_lc (own := [("key", 7)]) rfl sc_law_kept.nd (di_keys (dv (pv 2))) (blkOk_by (own := [("key", 7)]) (N := sl_law_kept) (sc := defScope s_law_kept) (by decide +kernel)) (fun _ _ _ _ _ => (gw_name (i := 7) sc_law_kept.nd rfl (Or.inl rfl) (by decide))) (fun _ _ _ _ _ => ts_nil) (fun _ _ _ _ _ => (de_op (od_add rfl) (de_callB (cd_len rfl) (by rfl) T.b_len (by decide +kernel) (da_cons (dv (pv 7)) da_nil)) (de_callB (cd_len rfl) (by rfl) T.b_len (by decide +kernel) (da_cons (de_dget (hu_of hr) (dv (pv 2)) (dv (pv 7)) (fun _ _ => rfl)) da_nil)))))) da_nil)) de_int) (dss_one (ds_ret de_bl)) dss_nil)
  (dss_cons (ds_asg (de_tup (da_cons (dv (pv 2)) (da_cons (de_dget (hu_of hr) (dv (pv 0)) de_str (fun _ _ => rfl)) da_nil))) (dg_tup (n := 2) rfl rfl (dgs_cons (dg_subD (hu_of hr) (dv (pv 0)) de_str) (dgs_cons (dg_name (i := 5) sc_law_kept.nd rfl (Or.inl rfl)) dgs_nil))))
  (dss_cons (ds_for poX rfl (di_lst rfl (de_callTy (cd_keysF rfl) (by rfl) T.b_list (by decide +kernel) (da_cons (dv (pv 5)) da_nil))) (dg_name (i := 6) sc_law_kept.nd rfl (Or.inl rfl)) (dss_one (ds_if (PW.pt (dt_and (dt_cmp (od_ne rfl (hU_of hr)) (dv (pv 6)) (dv (pv 1))) (pw_and1 (dt_cmp (od_ne rfl (hU_of hr)) (dv (pv 4)) (de_tup da_nil))))) (dss_one (ds_asg (de_op (od_add rfl) (de_dget (hu_of hr) (dv (pv 5)) (dv (pv 6)) (fun _ _ => rfl)) (de_lst (da_cons (dv (pv 4)) da_nil))) (dg_subD (hu_of hr) (dv (pv 5)) (dv (pv 6))))) dss_nil)))
  (dss_one (ds_ret de_bl))))))))), fun ds S q h => ?_⟩)
  · obtain ⟨_, _, _, _, _, _, rfl, _⟩ := h
    rfl
  · obtain ⟨o, B, s, page, x, l, rfl, ow, ok, hc, h⟩ := h
    obtain ⟨rws, ch, pages⟩ := s
    have hc : ch = some (x, l) := hc
    subst hc
    have own : S o = some (.dic (rec3 (.ref B.r) (.tup [.str x, .ref B.c]) (.ref B.t))) := ow.own
    have rows : S B.r = some (.dic (encD .str rws)) := ow.rows
    have told : S B.t = some (.dic (encD toldD pages)) := ow.told
    have chg := ow.chg x l rfl
    obtain ⟨n1, n2, n3⟩ := ow.ort
    obtain ⟨n4, n5, n6⟩ := ow.cd x l rfl
    walk_at "go"
    have fewA := after_len rws l
    have lr : rws.length ≤ 50 := ok.lr
    have lc : l.length ≤ 50 := ok.lc x l rfl
    have lp : pages.length ≤ 50 := ok.lp
    have ndr : (rws.map (·.1)).Nodup := ok.ndr
    have ndk : (pages.map (·.1)).Nodup := ok.ndk
    refine ⟨B.r, B.c, rws, l, rfl, rows, chg, ndr, ok.ndc x l rfl, by omega, by omega, n5.symm, fun p S1 np hp f1 => ?_⟩
    have own1 := f1.k _ _ own (by simp)
    have rows1 := f1.k _ _ rows (by simp)
    have told1 := f1.k _ _ told (by simp)
    have chg1 := f1.k _ _ chg (by simp)
    walk_at "go"
    refine ⟨l.map (·.1), by rw [encD_keys], by rw [List.length_map]; omega, fun ks perm srt => ?_⟩
    have fewK : ks.length ≤ 50 := by rw [perm.length_eq, List.length_map]; exact lc
    walk_at "go"
    refine lcGo_pure Dt.str (fun k => if aGet rws k = aGet (afterOf rws l) k then none else some (Dt.tup [.str k, oS (aGet rws k), oS (aGet (afterOf rws l) k)])) trivial ks [] (fun k hk kY kN h3 h4 => ?_) ?_
    · walk_at "go"
      rw [getS, getS]
      refine tells_oS.ne (by decide) ?_
      walk_at "go"
      refine iftN (p := aGet rws k = aGet (afterOf rws l) k) (fun h7 => ?_) (fun h7 => ?_)
      · walk_at "go"
        rw [getS, getS]
        exact h3 _ (if_neg h7)
      · exact h4 (if_pos h7)
    · rw [List.nil_append]
      walk_at "go"
      rw [op2, rowsD_eq]
      have npo : p ≠ o := (ne_free own np).symm
      have npt : p ≠ B.t := (ne_free told np).symm
      have npr : p ≠ B.r := (ne_free rows np).symm
      have npc : p ≠ B.c := (ne_free chg np).symm
      refine ⟨p, _, by walk_at "st", fun o' => ?_⟩
      walk_at "go"
      rw [keys_encD]
      have ndF := after_nd (L := l) ndr
      refine lcGo_pure (fun e : Str × Str => Dt.str e.1) (fun e => some (Dt.int ((e.1.length : Int) + (e.2.length : Int)))) sput_same (afterOf rws l) [] (fun e he kY kN h3 h4 => ?_) ?_
      · walk_at "go"
        refine ⟨_, get_enc ndF he, ?_⟩
        walk_at "go"
        exact h3 _ rfl
      · rw [List.nil_append]
        refine ⟨sput_same, ?_⟩
        rw [sput_back (by walk_at "st")]
        walk_at "go"
        refine ⟨(afterOf rws l).map fun e => (e.1.length : Int) + (e.2.length : Int), by rw [List.map_map]; exact congrFun List.filterMap_eq_map _, ?_⟩
        walk_at "go"
        refine ift (p := 500 < lenSum (afterOf rws l)) (fun h2 => ?_) (fun h2 => ?_)
        · rw [decide_eq_true h2] at h
          walk_at "go"
          refine PostO.use h B ⟨by walk_at "su", by walk_at "su", by walk_at "su", fun x y z => (by cases z), ow.ort, fun x y z => (by cases z)⟩ ((f1.mono fun b hb => by cases hb).mut (by simp [owA])) (fun b hb => .inl ?_)
          simp only [owA, chB, List.mem_cons, List.not_mem_nil, or_false] at hb ⊢
          rcases hb with hb | hb | hb <;> simp [hb]
        · rw [decide_eq_false h2] at h
          obtain ⟨ks2, perm2, srt2, h⟩ := h
          obtain rfl : ks2 = ks := sorted_unique srt2 srt (perm2.trans perm.symm)
          walk_at "go"
          rw [op1, sput_sput, keys_encD]
          generalize rowsOf rws (afterOf rws l) ks2 = RR at h
          generalize hS3 : sput S1 o (.dic (rec3 (.ref p) .non (.ref B.t))) = S3
          have z1 : S3 o = some (.dic (rec3 (.ref p) .non (.ref B.t))) := by rw [← hS3]; walk_at "st"
          have z2 : S3 B.t = some (.dic (encD toldD pages)) := by rw [← hS3]; walk_at "st"
          have z3 : S3 p = some (.dic (encD .str (afterOf rws l))) := by rw [← hS3]; walk_at "st"
          have f3 : Frm (owA o B ⟨rws, some (x, l), pages⟩) S S3 := by
            rw [← hS3]
            exact (f1.mono fun b hb => by cases hb).mut (by simp [owA])
          refine forGo_ind (fun e : Str × List (List Row3) => Dt.str e.1) (fun r δ S' => ∃ u6 u7, δ = [some (.ref o), some (.str page), some (.ref p), some (.ref B.r), some (rowsD RR), some (.ref B.t), u6, u7] ∧ S' = sput S3 B.t (.dic (encD toldD (tellR pages page RR (r.map (·.1))))) ∧ (∀ e ∈ r, e ∈ pages) ∧ (r.map (·.1)).Nodup) (fun δ S' h0 => ?_) (fun y r δ S' h0 => ?_) pages _ _ ⟨_, _, rfl, ?_, fun e he => he, ndk⟩
          · obtain ⟨u6, u7, rfl, rfl, _, _⟩ := h0
            refine ⟨trivial, ?_⟩
            walk_at "go"
            refine PostO.use h ⟨p, B.t, B.c⟩ ⟨by walk_at "su", by walk_at "su", ?_, fun x y z => (by cases z), ⟨npo.symm, n2, npt⟩, fun x y z => (by cases z)⟩ (f3.mut (by simp [owA])) (fun b hb => ?_)
            · dsimp only
              rw [sput_same, List.map_nil, tellR_nil]
            · simp only [owA, chB, List.mem_cons, List.not_mem_nil, or_false] at hb ⊢
              rcases hb with hb | hb | hb
              · simp [hb]
              · exact .inr (by rw [hb]; exact np)
              · simp [hb]
          · obtain ⟨u6, u7, rfl, rfl, h3, h4⟩ := h0
            refine ⟨trivial, fun nx step => ?_⟩
            have hy := h3 y List.mem_cons_self
            have hly := ok.lw y hy
            rw [List.map_cons] at h4
            obtain ⟨h5, h4⟩ := List.nodup_cons.mp h4
            have h3' : ∀ e ∈ r, e ∈ pages := fun e he => h3 e (List.mem_cons_of_mem _ he)
            have gt := get_enc (g := toldD) (by rw [tellR_keys]; exact ndk) (tellR_get (page := page) (r := RR) (ks := r.map (·.1)) ndk hy)
            have tl : (tellR pages page RR (y.1 :: r.map (·.1))).length = pages.length := by unfold tellR; rw [List.length_map]
            rw [List.map_cons]
            walk_at "go"
            refine iftN (p := y.1 = page) (fun h7 => ?_) (fun h7 => ?_)
            · walk_at "go"
              refine (tells_row.tup).ne (a := RR) (b := []) (by decide) ?_
              walk_at "go"
              refine iftN (p := RR = []) (fun h8 => ?_) (fun h8 => ?_)
              · walk_at "go"
                refine ⟨_, gt, ?_⟩
                walk_at "go"
                refine step _ _ ⟨_, _, rfl, ?_, h3', h4⟩
                rw [sput_sput, ← tellR_put ndk hy h7 h8 h5, ← encD_put]
                show _ = sput S3 B.t (.dic (kPut _ _ (.lst ((y.2 ++ [RR]).map rowsD))))
                rw [List.map_append]
                rfl
              · walk_at "go"
                exact step _ _ ⟨_, _, rfl, by rw [tellR_same (.inr h8)], h3', h4⟩
            · walk_at "go"
              exact step _ _ ⟨_, _, rfl, by rw [tellR_same (.inl h7)], h3', h4⟩
          · rw [tellR_all]
            exact store_eq z2 fun b _ => rfl
end
end K17

open PySem PySem.Spec PyProof.Rows L2 Pr Dn LamX

namespace K17
theorem own_mem {m : Addr} {A : Ad} {s : Sh} {b : Addr} : b ∈ own m A s ↔ b = m ∨ b = A.R ∨ b = A.L ∨ b = A.W ∨ b ∈ chA A s ∨ b ∈ A.ws.map (·.2.1) := by
  simp only [own, List.mem_cons, List.mem_append]
theorem ShAt.frm {K : PySem.W.Frag} {S S' : Store} {m : Addr} {A : Ad} {s : Sh} {M : List Addr} (sh : ShAt K S m A s) (f : Frm M S S') (n : ∀ b ∈ M, b ∉ own m A s) : ShAt K S' m A s := by
  have out : ∀ b, b ∈ own m A s → b ∉ M := fun b hb hm => n b hm hb
  refine ⟨f.k _ _ sh.ins (out _ (own_mem.mpr (.inl rfl))), f.k _ _ sh.rows (out _ (own_mem.mpr (.inr (.inl rfl)))), f.k _ _ sh.lst (out _ (own_mem.mpr (.inr (.inr (.inl rfl))))), f.k _ _ sh.wt (out _ (own_mem.mpr (.inr (.inr (.inr (.inl rfl)))))), fun p l hc => f.k _ _ (sh.chg p l hc) (out _ (own_mem.mpr (.inr (.inr (.inr (.inr (.inl ?_))))))), sh.pr, fun e he => f.k _ _ (sh.wl e he) (out _ (own_mem.mpr (.inr (.inr (.inr (.inr (.inr (List.mem_map.mpr ⟨e, he, rfl⟩)))))))), sh.ndk, sh.ndr, sh.ndc, sh.nda, sh.rw, sh.cd⟩
  unfold chA
  rw [hc]
  exact List.mem_cons_self
theorem owA_mem {o : Addr} {B : Ow} {s : Sh} {b : Addr} : b ∈ owA o B s ↔ b = o ∨ b = B.r ∨ b = B.t ∨ b ∈ chB B s := by
  simp only [owA, List.mem_cons]
theorem OwAt.frm {S S' : Store} {o : Addr} {B : Ow} {s : Sh} {M : List Addr} (w : OwAt S o B s) (f : Frm M S S') (n : ∀ b ∈ M, b ∉ owA o B s) : OwAt S' o B s := by
  have out : ∀ b, b ∈ owA o B s → b ∉ M := fun b hb hm => n b hm hb
  refine ⟨f.k _ _ w.own (out _ (owA_mem.mpr (.inl rfl))), f.k _ _ w.rows (out _ (owA_mem.mpr (.inr (.inl rfl)))), f.k _ _ w.told (out _ (owA_mem.mpr (.inr (.inr (.inl rfl))))), fun p l hc => f.k _ _ (w.chg p l hc) (out _ (owA_mem.mpr (.inr (.inr (.inr ?_))))), w.ort, w.cd⟩
  unfold chB
  rw [hc]
  exact List.mem_cons_self
theorem aGet_after {k : Str} : ∀ {l : List (Str × Option Str)} {rows : List (Str × Str)}, (l.map (·.1)).Nodup → aGet (afterOf rows l) k = (match aGet l k with
  | some o => o
  | none => aGet rows k)
  | [], rows, _ => rfl
  | e :: r, rows, nd => by
    rw [List.map_cons] at nd
    obtain ⟨n1, n2⟩ := List.nodup_cons.mp nd
    show aGet (afterOf (aftS rows e) r) k = _
    rw [aGet_after n2]
    obtain ⟨j, v⟩ := e
    have hr : aGet ((j, v) :: r) k = if j = k then some v else aGet r k := by
      unfold aGet
      rw [List.find?_cons]
      by_cases h : j = k
      · rw [if_pos h]
        simp [h]
      · rw [if_neg h]
        simp [h]
    rw [hr]
    by_cases h : j = k
    · subst h
      have : aGet r j = none := aGet_none.mpr fun x hx => n1 (List.mem_map.mpr ⟨_, hx, rfl⟩)
      rw [this, if_pos rfl]
      cases v with
      | none => exact (aGet_drop rows j j).trans (if_pos rfl)
      | some z => exact (aGet_put _ j j z).trans (if_pos rfl)
    · rw [if_neg h]
      have : aGet (aftS rows (j, v)) k = aGet rows k := by
        cases v with
        | none => exact (aGet_drop rows j k).trans (if_neg fun z => h z.symm)
        | some z => exact ((aGet_put _ j k z).trans (if_neg fun z => h z.symm)).trans ((aGet_drop rows j k).trans (if_neg fun z => h z.symm))
      rw [this]
def cReads (K : PySem.W.Frag) : DSp := fun ds S q _ => ∃ m A s o B, ds = [.ref m, .ref o] ∧ ShAt K S m A s ∧ OwAt S o B s ∧ ShOk s ∧ (∀ b ∈ owA o B s, b ∉ own m A s) ∧ ∀ S', Frm [] S S' → q (.bl true) S'
section
variable {P : Program} {w : World} {K : PySem.W.Frag} {mg : Str → Option Value} {base : Heap}
local macro_rules | `(tactic| walk_at "q") => `(tactic| first
  | ((with_reducible show ∃ d, kGet (_ :: _) _ = some d ∧ _); refine ⟨_, by first | exact og1 | exact og2 | exact og3, ?_⟩))
theorem ok_reads (T : Tx K mg) (c__law_after : CalX P w K mg base 1 "_law_after" (spD K cLawAfter) []) (m_Shelf_read_row : MetX P w K mg base 3 (He.ga K "Shelf") "read_row" (spD K (cRead K)) []) {f : Addr} {fd : FuncData} (F : FunD K "_law_reads" "_law_reads" (defArgs s_law_reads) (defBody s_law_reads) (defScope s_law_reads) [] [] f fd) : FnOk P w K mg base (L2.CX P w) 4 f fd ["shelf", "own"] (spD K (cReads K)) := by
  refine dfn 5 F sc_law_reads (fun ds S q e h => ?_) rfl (fun cdv A outer s H E e hr => ⟨_, (dss_cons (ds_lock (ds_for poX rfl (di_keys (de_dget (hu_of hr) (dv (pv 1)) de_str (fun _ _ => rfl))) (dg_name (i := 2) sc_law_reads.nd rfl (Or.inr rfl)) (dss_cons (ds_set (i := 3) sc_law_reads.nd rfl (Or.inr rfl) (de_dget (hu_of hr) (dv (pv 1)) de_str (fun _ _ => rfl)))
  (dss_cons (ds_if (PW.pt (dt_and (dt_cmp od_isNot (de_dget (hu_of hr) (dv (pv 1)) de_str (fun _ _ => rfl)) de_non) (pw_and1 (dt_cmp (od_eq rfl (hU_of hr)) (de_ixC (n := 0) rfl (de_dget (hu_of hr) (dv (pv 1)) de_str (fun _ _ => rfl))) (dv (pv 2)))))) (dss_one (ds_set (i := 3) sc_law_reads.nd rfl (Or.inr rfl) (de_call rfl c__law_after dfl_nil hr (by decide) rfl paX (da_cons (dv (pv 3)) (da_cons (de_ixC (n := 1) rfl (de_dget (hu_of hr) (dv (pv 1)) de_str (fun _ _ => rfl))) da_nil))))) dss_nil)
  (dss_one (ds_if (dt_cmp (od_neV rfl (hU_of hr)) (de_lc (own := [("name", 4)]) rfl sc_law_reads.nd (di_lst rfl (de_lst (da_cons de_str (da_cons de_str (da_cons de_str da_nil))))) (blkOk_by (own := [("name", 4)]) (N := sl_law_reads) (sc := defScope s_law_reads) (by decide +kernel)) (fun _ _ _ _ _ => (gw_name (i := 4) sc_law_reads.nd rfl (Or.inl rfl) (by decide))) (fun _ _ _ _ _ => (ts_one (dt_cmp (od_ne rfl (hU_of hr)) (de_meth (nm := nm_Shelf) rfl m_Shelf_read_row (by decide +kernel) dfl_nil hr (by decide) passL (dv (pv 0)) (da_cons (dv (pv 2)) (da_cons (dv (pv 4)) da_nil))) (de_dget1 (hu_of hr) (dv (pv 3)) (dv (pv 4)) ⟨by rfl, by rfl, by rfl, by rfl⟩)))) (fun _ _ _ _ _ => (dv (pv 4)))) (de_lst da_nil)) (dss_one (ds_ret de_bl)) dss_nil))))))
  (dss_one (ds_ret de_bl))), fun ds S q h => ?_⟩)
  · obtain ⟨_, _, _, _, _, rfl, _⟩ := h
    rfl
  · obtain ⟨m, A, s, o, B, rfl, sh, ow, ok, dis, h⟩ := h
    obtain ⟨rws, ch, pages⟩ := s
    have own_ : S o = some (.dic (rec3 (.ref B.r) (chO B ch) (.ref B.t))) := ow.own
    have rows : S B.r = some (.dic (encD .str rws)) := ow.rows
    have told : S B.t = some (.dic (encD toldD pages)) := ow.told
    obtain ⟨n1, n2, n3⟩ := ow.ort
    walk_at "go"
    refine ⟨B.t, _, told, fun o' => ?_⟩
    walk_at "go"
    rw [keys_encD]
    have tno : ∀ b ∈ [B.t], b ∉ own m A ⟨rws, ch, pages⟩ := fun b hb => by
      rw [List.mem_singleton.mp hb]
      exact dis _ (owA_mem.mpr (.inr (.inr (.inl rfl))))
    refine forGo_ind (fun e : Str × List (List Row3) => Dt.str e.1) (fun r δ S' => ∃ u2 u3 u4, δ = [some (.ref m), some (.ref o), u2, u3, u4] ∧ Frm [B.t] S S' ∧ S' B.t = some (.lck o' (encD toldD pages)) ∧ (∀ e ∈ r, e ∈ pages)) (fun δ S' h0 => ?_) (fun y r δ S' h0 => ?_) pages _ _ ⟨_, _, _, rfl, Frm.refl.mut (by simp), sput_same, fun e he => he⟩
    · obtain ⟨u2, u3, u4, rfl, f1, h2, _⟩ := h0
      refine ⟨h2, h2, ?_⟩
      walk_at "go"
      refine h _ ⟨fun b c hb _ => ?_, f1.t.put fun q z => Cell.noConfusion z⟩
      by_cases hbt : b = B.t
      · rw [hbt, sput_same, ← hb, hbt, told]
      · rw [sput_ne hbt]
        exact f1.k _ _ hb (by simpa using hbt)
    · obtain ⟨u2, u3, u4, rfl, f1, h2, h3⟩ := h0
      refine ⟨h2, fun nx step => ?_⟩
      have hy := h3 y List.mem_cons_self
      have h3' : ∀ e ∈ r, e ∈ pages := fun e he => h3 e (List.mem_cons_of_mem _ he)
      have sh1 := sh.frm f1 tno
      have ins1 := sh1.ins
      have own1 := f1.k _ _ own_ (by simpa using n2)
      have rows1 := f1.k _ _ rows (by simpa using n3)
      have on1 : Sh.on ⟨rws, ch, pages⟩ y.1 = true := decide_eq_true (List.mem_map.mpr ⟨y, hy, rfl⟩)
      cases ch with
      | none =>
        walk_at "go"
        refine ⟨m, A, _, y.1, "a", rfl, sh1, ?_⟩
        rw [on1]
        walk_at "go"
        rw [getS, show Sh.read ⟨rws, none, pages⟩ y.1 "a" = aGet rws "a" from rfl]
        refine tells_oS.neS (by decide) ?_
        walk_at "go"
        refine ⟨m, A, _, y.1, "b", rfl, sh1, ?_⟩
        rw [on1]
        walk_at "go"
        rw [getS, show Sh.read ⟨rws, none, pages⟩ y.1 "b" = aGet rws "b" from rfl]
        refine tells_oS.neS (by decide) ?_
        walk_at "go"
        refine ⟨m, A, _, y.1, "c", rfl, sh1, ?_⟩
        rw [on1]
        walk_at "go"
        rw [getS, show Sh.read ⟨rws, none, pages⟩ y.1 "c" = aGet rws "c" from rfl]
        refine tells_oS.neS (by decide) ?_
        walk_at "go"
        · refine ((tells_enc (α := Str)).lst).neS (a := []) (by decide) ?_
          walk_at "go"
          exact step _ _ ⟨_, _, _, rfl, f1, h2, h3'⟩
      | some c =>
        obtain ⟨x, l⟩ := c
        have chg1 : S' B.c = some (.dic (encD oS l)) := f1.k _ _ (ow.chg x l rfl) (by simpa using (ow.cd x l rfl).2.2)
        walk_at "go"
        refine ift (p := x = y.1) (fun h7 => ?_) (fun h7 => ?_)
        · walk_at "go"
          have hlr : rws.length ≤ 50 := ok.lr
          have hlc := ok.lc x l rfl
          refine ⟨B.r, B.c, rws, l, rfl, rows1, chg1, ok.ndr, ok.ndc x l rfl, by omega, by omega, (ow.cd x l rfl).2.1.symm, fun p S2 np hp f2 => ?_⟩
          have sh2 := sh1.frm f2 (by simp)
          have ins2 := sh2.ins
          walk_at "go"
          have f3 : Frm [B.t] S S2 := f1.trans (f2.mono fun b hb => by cases hb)
          have h4 : S2 B.t = some (.lck o' (encD toldD pages)) := f2.k _ _ h2 (by simp)
          have rd : ∀ k, Sh.read ⟨rws, some (x, l), pages⟩ y.1 k = aGet (afterOf rws l) k := fun k => by
            rw [aGet_after (ok.ndc x l rfl)]
            show (if x = y.1 then _ else _) = _
            rw [if_pos h7]
            try (cases aGet l k <;> rfl)
          refine ⟨m, A, _, y.1, "a", rfl, sh2, ?_⟩
          rw [on1]
          walk_at "go"
          rw [getS, rd "a"]
          refine tells_oS.neS (by decide) ?_
          walk_at "go"
          refine ⟨m, A, _, y.1, "b", rfl, sh2, ?_⟩
          rw [on1]
          walk_at "go"
          rw [getS, rd "b"]
          refine tells_oS.neS (by decide) ?_
          walk_at "go"
          refine ⟨m, A, _, y.1, "c", rfl, sh2, ?_⟩
          rw [on1]
          walk_at "go"
          rw [getS, rd "c"]
          refine tells_oS.neS (by decide) ?_
          walk_at "go"
          · refine ((tells_enc (α := Str)).lst).neS (a := []) (by decide) ?_
            walk_at "go"
            exact step _ _ ⟨_, _, _, rfl, f3, h4, h3'⟩
        · walk_at "go"
          have rd : ∀ k, Sh.read ⟨rws, some (x, l), pages⟩ y.1 k = aGet rws k := fun k => by
            show (if x = y.1 then _ else _) = _
            rw [if_neg h7]
          refine ⟨m, A, _, y.1, "a", rfl, sh1, ?_⟩
          rw [on1]
          walk_at "go"
          rw [getS, rd "a"]
          refine tells_oS.neS (by decide) ?_
          walk_at "go"
          refine ⟨m, A, _, y.1, "b", rfl, sh1, ?_⟩
          rw [on1]
          walk_at "go"
          rw [getS, rd "b"]
          refine tells_oS.neS (by decide) ?_
          walk_at "go"
          refine ⟨m, A, _, y.1, "c", rfl, sh1, ?_⟩
          rw [on1]
          walk_at "go"
          rw [getS, rd "c"]
          refine tells_oS.neS (by decide) ?_
          walk_at "go"
          · refine ((tells_enc (α := Str)).lst).neS (a := []) (by decide) ?_
            walk_at "go"
            exact step _ _ ⟨_, _, _, rfl, f1, h2, h3'⟩
end
end K17

open PySem PySem.Spec PyProof.Rows L2 Pr Dn LamX

namespace K17
def stFor : Stmt → List Stmt
  | .For _ _ b _ _ => b
  | _ => []
def stThen : Stmt → List Stmt
  | .If _ b _ _ => b
  | _ => []
def stElse : Stmt → List Stmt
  | .If _ _ b _ => b
  | _ => []
def nth (l : List Stmt) (i : Nat) : Stmt := l.getD i (.Pass ⟨0, 0, 0, 0⟩)
def bd_dice : List Stmt := stFor (nth (defBody s_law) 0)
def bd_step : List Stmt := stFor (nth bd_dice 1)
def bd_open : List Stmt := stThen (nth bd_step 2)
def bd_e1 : List Stmt := stElse (nth bd_step 2)
def bd_close : List Stmt := stThen (nth bd_e1 0)
def bd_e2 : List Stmt := stElse (nth bd_e1 0)
def bd_begin : List Stmt := stThen (nth bd_e2 0)
def bd_e3 : List Stmt := stElse (nth bd_e2 0)
def bd_set : List Stmt := stThen (nth bd_e3 0)
def bd_e4 : List Stmt := stElse (nth bd_e3 0)
def bd_commit : List Stmt := stThen (nth bd_e4 0)
def bd_e5 : List Stmt := stElse (nth bd_e4 0)
def bd_roll : List Stmt := stThen (nth bd_e5 0)
def bd_told : List Stmt := stElse (nth bd_e5 0)
def bd_chk : List Stmt := bd_step.drop 3
abbrev pqrs : List Str := ["p", "q", "r", "s"]
abbrev abc : List Str := ["a", "b", "c"]
structure Small (s : Sh) (k : Nat) : Prop where
  pg : ∀ e ∈ s.pages, e.1 ∈ pqrs ∧ e.2.length ≤ k
  rk : ∀ e ∈ s.rows, e.1 ∈ abc
  ck : ∀ p l, s.change = some (p, l) → ∀ e ∈ l, e.1 ∈ abc
  co : ∀ p l, s.change = some (p, l) → p ∈ s.pages.map (·.1)
structure LwAt (K : PySem.W.Frag) (S : Store) (d m o : Addr) (A : Ad) (B : Ow) (s : Sh) (k : Nat) : Prop where
  dice : ∃ x n j : Int, S d = some (.lst [.int x, .int n, .int j])
  sh : ShAt K S m A s
  ow : OwAt S o B s
  dis : ∀ b ∈ owA o B s, b ∉ own m A s
  dd : d ∉ own m A s
  tx : TabX (tb K) S
  sm : Small s k
theorem nd_four {L : List Str} (nd : L.Nodup) (h : ∀ e ∈ L, e ∈ pqrs) : L.length ≤ 4 := nd_sub_len nd (m := pqrs) h
theorem nd_thr {L : List Str} (nd : L.Nodup) (h : ∀ e ∈ L, e ∈ abc) : L.length ≤ 3 := nd_sub_len nd (m := abc) h
theorem LwAt.ok {K : PySem.W.Frag} {S : Store} {d m o : Addr} {A : Ad} {B : Ow} {s : Sh} {k : Nat} (h : LwAt K S d m o A B s k) (hk : k ≤ 100) : ShOk s ∧ s.pages.length ≤ 4 ∧ s.rows.length ≤ 3 ∧ ∀ p l, s.change = some (p, l) → l.length ≤ 3 := by
  have h1 : s.pages.length ≤ 4 := by
    rw [← List.length_map (f := fun e : Str × List (List Row3) => e.1)]
    exact nd_four h.sh.ndk fun e he => by obtain ⟨x, hx, rfl⟩ := List.mem_map.mp he; exact (h.sm.pg x hx).1
  have h2 : s.rows.length ≤ 3 := by
    rw [← List.length_map (f := fun e : Str × Str => e.1)]
    exact nd_thr h.sh.ndr fun e he => by obtain ⟨x, hx, rfl⟩ := List.mem_map.mp he; exact h.sm.rk x hx
  have h3 : ∀ p l, s.change = some (p, l) → l.length ≤ 3 := fun p l hc => by
    rw [← List.length_map (f := fun e : Str × Option Str => e.1)]
    exact nd_thr (h.sh.ndc p l hc) fun e he => by obtain ⟨x, hx, rfl⟩ := List.mem_map.mp he; exact h.sm.ck p l hc x hx
  exact ⟨⟨h.sh.ndk, h.sh.ndr, h.sh.ndc, by omega, by omega, fun p l hc => by have := h3 p l hc; omega, fun e he => by have := (h.sm.pg e he).2; omega⟩, h1, h2, h3⟩
theorem own_nt {K : PySem.W.Frag} {S : Store} {m : Addr} {A : Ad} {s : Sh} (sh : ShAt K S m A s) : ∀ b ∈ own m A s, ∃ c, S b = some c ∧ (∀ q, c ≠ .tbl q) := fun b hb => by
  rcases own_mem.mp hb with h | h | h | h | h | h
  · rw [h]; exact ⟨_, sh.ins, fun q z => Cell.noConfusion z⟩
  · rw [h]; exact ⟨_, sh.rows, fun q z => Cell.noConfusion z⟩
  · rw [h]; exact ⟨_, sh.lst, fun q z => Cell.noConfusion z⟩
  · rw [h]; exact ⟨_, sh.wt, fun q z => Cell.noConfusion z⟩
  · unfold chA at h
    cases hc : s.change with
    | none => rw [hc] at h; cases h
    | some c =>
      obtain ⟨p, l⟩ := c
      rw [hc] at h
      rw [List.mem_singleton.mp h]
      exact ⟨_, sh.chg p l hc, fun q z => Cell.noConfusion z⟩
  · obtain ⟨e, he, rfl⟩ := List.mem_map.mp h
    exact ⟨_, sh.wl e he, fun q z => Cell.noConfusion z⟩
theorem owA_dic {S : Store} {o : Addr} {B : Ow} {s : Sh} (w : OwAt S o B s) : ∀ b ∈ owA o B s, ∃ l, S b = some (.dic l) := fun b hb => by
  rcases owA_mem.mp hb with h | h | h | h
  · rw [h]; exact ⟨_, w.own⟩
  · rw [h]; exact ⟨_, w.rows⟩
  · rw [h]; exact ⟨_, w.told⟩
  · unfold chB at h
    cases hc : s.change with
    | none => rw [hc] at h; cases h
    | some c =>
      obtain ⟨p, l⟩ := c
      rw [hc] at h
      rw [List.mem_singleton.mp h]
      exact ⟨_, w.chg p l hc⟩
section
variable {K : PySem.W.Frag} {S S' : Store} {d m o : Addr} {A A' : Ad} {B B' : Ow} {s s' s2 : Sh} {k : Nat}
/-- the program's shelf has changed -/
structure Mid (K : PySem.W.Frag) (S : Store) (d m o : Addr) (A : Ad) (B : Ow) (s s2 : Sh) : Prop where
  dice : ∃ x n j : Int, S d = some (.lst [.int x, .int n, .int j])
  sh : ShAt K S m A s
  ow : OwAt S o B s2
  dis : ∀ b ∈ owA o B s2, b ∉ own m A s
  dd : d ∉ own m A s
  tx : TabX (tb K) S
theorem LwAt.mid (h : LwAt K S d m o A B s k) : Mid K S d m o A B s s := ⟨h.dice, h.sh, h.ow, h.dis, h.dd, h.tx⟩
theorem Mid.shelf (h : Mid K S d m o A B s s2) (sh : ShAt K S' m A' s') (f : Frm (own m A s) S S') (n : NewA (own m A s) (own m A' s') S) : Mid K S' d m o A' B s' s2 := by
  obtain ⟨x, y, z, hd⟩ := h.dice
  have notin : ∀ b c, S b = some c → b ∉ own m A s → b ∉ own m A' s' := fun b c hb hn hm => by
    rcases n b hm with z | z
    · exact hn z
    · rw [hb] at z; cases z
  refine ⟨⟨x, y, z, f.k _ _ hd h.dd⟩, sh, h.ow.frm f fun b hb hw => h.dis b hw hb, fun b hb => ?_, notin d _ hd h.dd, h.tx.frm f fun b hb q z => ?_⟩
  · obtain ⟨l, hl⟩ := owA_dic h.ow b hb
    exact notin b _ hl (h.dis b hb)
  · obtain ⟨c, hc, nt⟩ := own_nt h.sh b hb
    rw [hc] at z
    exact nt q (Option.some.inj z)
theorem Mid.own (h : Mid K S d m o A B s s2) (w : OwAt S' o B' s') (f : Frm (owA o B s2) S S') (n : NewA (owA o B s2) (owA o B' s') S) : Mid K S' d m o A B' s s' := by
  obtain ⟨x, y, z, hd⟩ := h.dice
  have dn : d ∉ owA o B s2 := fun hm => by
    obtain ⟨l, hl⟩ := owA_dic h.ow d hm
    rw [hd] at hl; cases hl
  refine ⟨⟨x, y, z, f.k _ _ hd dn⟩, h.sh.frm f fun b hb ho => h.dis b hb ho, w, fun b hb ho => ?_, h.dd, h.tx.frm f fun b hb q z => ?_⟩
  · rcases n b hb with z | z
    · exact h.dis b z ho
    · obtain ⟨c, hc, _⟩ := own_nt h.sh b ho
      rw [hc] at z; cases z
  · obtain ⟨l, hl⟩ := owA_dic h.ow b hb
    rw [hl] at z; cases z
/-- garbage -/
theorem Mid.gar (h : Mid K S d m o A B s s2) (f : Frm [] S S') : Mid K S' d m o A B s s2 := by
  obtain ⟨x, y, z, hd⟩ := h.dice
  exact ⟨⟨x, y, z, f.k _ _ hd (by simp)⟩, h.sh.frm f (by simp), h.ow.frm f (by simp), h.dis, h.dd, h.tx.frm f (by simp)⟩
theorem Mid.roll (h : Mid K S d m o A B s s2) (x y z : Int) : Mid K (sput S d (.lst [.int x, .int y, .int z])) d m o A B s s2 := by
  obtain ⟨x', y', z', hd⟩ := h.dice
  have f : Frm [d] S (sput S d (.lst [.int x, .int y, .int z])) := Frm.refl.mut (by simp)
  exact ⟨⟨_, _, _, sput_same⟩, h.sh.frm f (by simpa using h.dd), h.ow.frm f (fun b hb hw => by
    obtain ⟨l, hl⟩ := owA_dic h.ow b hw
    rw [List.mem_singleton.mp hb, hd] at hl; cases hl), h.dis, h.dd, h.tx.frm f fun b hb q z => by rw [List.mem_singleton.mp hb, hd] at z; cases z⟩
theorem Mid.lw (h : Mid K S d m o A B s s) (sm : Small s k) : LwAt K S d m o A B s k := ⟨h.dice, h.sh, h.ow, h.dis, h.dd, h.tx, sm⟩
end
end K17

open PySem PySem.Spec PyProof.Rows L2 Pr Dn LamX

namespace K17
abbrev lcx (P : Program) (w : World) (K : PySem.W.Frag) (mg : Str → Option Value) (base : Heap) (f : Addr) (cdv : Value) (A : Around) (outer : List Env) (s : Shared) (HE : Hp) (E : XK) : Cx := cxOf (L2.CX P w) P w K mg base sl_law "law" (defScope s_law) f cdv A outer s HE E
/-- what the law's blocks are given -/
structure Env17 (P : Program) (w : World) (K : PySem.W.Frag) (mg : Str → Option Value) (base : Heap) (c0 : Addr) : Prop where
  m_Shelf_open_page : MetX P w K mg base 1 (He.ga K "Shelf") "open_page" (spD K (cOpen K)) []
  m_Shelf_close_page : MetX P w K mg base 3 (He.ga K "Shelf") "close_page" (spD K (cClose K)) []
  m_Shelf_begin : MetX P w K mg base 3 (He.ga K "Shelf") "begin" (spD K (cBegin K)) []
  m_Shelf_set_row : MetX P w K mg base 3 (He.ga K "Shelf") "set_row" (spD K (cSet K)) []
  m_Shelf_commit : MetX P w K mg base 3 (He.ga K "Shelf") "commit" (spD K (cCommit K)) []
  m_Shelf_roll_back : MetX P w K mg base 3 (He.ga K "Shelf") "roll_back" (spD K (cRoll K)) []
  m_Shelf_told : MetX P w K mg base 3 (He.ga K "Shelf") "told" (spD K (cTold K)) []
  c__law_roll : CalX P w K mg base 1 "_law_roll" (spD K Dn.cRoll) []
  c__law_kept : CalX P w K mg base 2 "_law_kept" (spD K cKept) []
  c__law_reads : CalX P w K mg base 4 "_law_reads" (spD K (cReads K)) []
  FT : ∃ fdT, FunD K "_law_told" "_law_told" (defArgs s_law_told) (defBody s_law_told) (defScope s_law_told) [] [] (He.ga K "_law_told") fdT
  TB : TabB base mg c0 (PtL K)
  ne : PtL K ≠ PtC K
theorem hTu_of {K : PySem.W.Frag} (ne : PtL K ≠ PtC K) : ∀ p ∈ tb K, p.1 = PtL K → p.2 = qlam := fun p hp e => by
  rcases List.mem_cons.mp hp with rfl | hp
  · rfl
  · rw [List.mem_singleton.mp hp] at e
    exact absurd e.symm ne
abbrev Sl (δ : DS) (d m o : Addr) : Prop := ∃ (u0 u4 u5 u6 u7 u8 u9 u10 u11 u12 u13 u14 u15 u16 u17 u18 u19 : Option Dt), δ = [u0, some (.ref d), some (.ref m), some (.ref o), u4, u5, u6, u7, u8, u9, u10, u11, u12, u13, u14, u15, u16, u17, u18, u19]
section
variable {K : PySem.W.Frag} {S S' : Store} {d m o p : Addr} {A A' : Ad} {B B' : Ow} {s s' s2 : Sh} {k : Nat}
theorem Mid.mown (h : Mid K S d m o A B s s2) : S o = some (.dic (rec3 (.ref B.r) (chO B s2.change) (.ref B.t))) := h.ow.own
/-- own["told"] = a new dict -/
theorem Mid.told (h : Mid K S d m o A B s s2) (np : S p = none) (pg : List (Str × List (List Row3))) : Mid K (sput (sput S p (.dic (encD toldD pg))) o (.dic (rec3 (.ref B.r) (chO B s2.change) (.ref p)))) d m o A { B with t := p } s { s2 with pages := pg } := by
  have e1 := h.ow.own
  have e2 := h.ow.rows
  have npo : p ≠ o := (ne_free e1 np).symm
  have npr : p ≠ B.r := (ne_free e2 np).symm
  obtain ⟨n1, n2, n3⟩ := h.ow.ort
  refine h.own (B' := { B with t := p }) (s' := { s2 with pages := pg }) ⟨by walk_at "su", by walk_at "su", by walk_at "su", fun x l hc => ?_, ⟨n1, npo.symm, npr.symm⟩, fun x l hc => ?_⟩ ((Frm.refl.own np).mut (owA_mem.mpr (.inl rfl))) (fun b hb => ?_)
  · have e3 := h.ow.chg x l hc
    obtain ⟨c1, c2, c3⟩ := h.ow.cd x l hc
    have npc : p ≠ B.c := (ne_free e3 np).symm
    walk_at "su"
  · have e3 := h.ow.chg x l hc
    obtain ⟨c1, c2, c3⟩ := h.ow.cd x l hc
    exact ⟨c1, c2, ne_free e3 np⟩
  · rcases owA_mem.mp hb with z | z | z | z
    · exact .inl (owA_mem.mpr (.inl z))
    · exact .inl (owA_mem.mpr (.inr (.inl z)))
    · exact .inr (by rw [z]; exact np)
    · exact .inl (owA_mem.mpr (.inr (.inr (.inr z))))
theorem Small.mono {j : Nat} (h : Small s k) (hj : k ≤ j) : Small s j := ⟨fun e he => ⟨(h.pg e he).1, Nat.le_trans (h.pg e he).2 hj⟩, h.rk, h.ck, h.co⟩
/-- own["change"] = None -/
theorem Mid.noc (h : Mid K S d m o A B s s2) : Mid K (sput S o (.dic (rec3 (.ref B.r) .non (.ref B.t)))) d m o A B s { s2 with change := none } := by
  have e1 := h.ow.own
  have e2 := h.ow.rows
  have e3 := h.ow.told
  obtain ⟨n1, n2, n3⟩ := h.ow.ort
  refine h.own (B' := B) (s' := { s2 with change := none }) ⟨by walk_at "su", by walk_at "su", by walk_at "su", fun x l hc => (by cases hc), ⟨n1, n2, n3⟩, fun x l hc => (by cases hc)⟩ (Frm.refl.mut (owA_mem.mpr (.inl rfl))) (fun b hb => .inl ?_)
  rcases owA_mem.mp hb with z | z | z | z
  · exact owA_mem.mpr (.inl z)
  · exact owA_mem.mpr (.inr (.inl z))
  · exact owA_mem.mpr (.inr (.inr (.inl z)))
  · cases z
/-- own["change"] = (page, {}) -/
theorem Mid.newc (h : Mid K S d m o A B s s2) (np : S p = none) (page : Str) : Mid K (sput (sput S p (.dic [])) o (.dic (rec3 (.ref B.r) (.tup [.str page, .ref p]) (.ref B.t)))) d m o A { B with c := p } s { s2 with change := some (page, []) } := by
  have e1 := h.ow.own
  have e2 := h.ow.rows
  have e3 := h.ow.told
  have npo : p ≠ o := (ne_free e1 np).symm
  have npr : p ≠ B.r := (ne_free e2 np).symm
  have npt : p ≠ B.t := (ne_free e3 np).symm
  obtain ⟨n1, n2, n3⟩ := h.ow.ort
  refine h.own (B' := { B with c := p }) (s' := { s2 with change := some (page, []) }) ⟨by walk_at "su", by walk_at "su", by walk_at "su", fun x l hc => (by cases hc; walk_at "su"), ⟨n1, n2, n3⟩, fun x l hc => ⟨npo, npr, npt⟩⟩ ((Frm.refl.own np).mut (owA_mem.mpr (.inl rfl))) (fun b hb => ?_)
  rcases owA_mem.mp hb with z | z | z | z
  · exact .inl (owA_mem.mpr (.inl z))
  · exact .inl (owA_mem.mpr (.inr (.inl z)))
  · exact .inl (owA_mem.mpr (.inr (.inr (.inl z))))
  · exact .inr (by rw [List.mem_singleton.mp z]; exact np)
end
section
variable {P : Program} {w : World} {K : PySem.W.Frag} {mg : Str → Option Value} {base : Heap}
local macro_rules | `(tactic| walk_at "q") => `(tactic| first
  | ((with_reducible show ∃ d, kGet (_ :: _) _ = some d ∧ _); refine ⟨_, by first | exact og1 | exact og2 | exact og3, ?_⟩))
theorem bl_open (T : Tx K mg) {f c0 : Addr} {A0 : Around} {outer : List Env} {s0 : Shared} {HE : Hp} {E : XK} {e : DX} (V : Env17 P w K mg base c0) (hr : Room 14 (A0.deeper (envOfC "law" (defScope s_law) s0.heap.objs.size f (.ref c0)))) :
    ∃ t, PSs (lcx P w K mg base f (.ref c0) A0 outer s0 HE E) bd_open (tDS K E e t) ∧ ∀ (D : DEnds) (S : Store) (d m o : Addr) (A : Ad) (B : Ow) (s : Sh) (k : Nat) (page key : Str) (sort : Int) (u0 u4 u10 u11 u12 u13 u14 u15 u16 u17 u18 u19 : Option Dt), LwAt K S d m o A B s k → k ≤ 90 → page ∈ pqrs →
      (∀ δ' S' A' B' s', Sl δ' d m o → LwAt K S' d m o A' B' s' (k + 1) → D.nx δ' S') → t D [u0, some (.ref d), some (.ref m), some (.ref o), u4, some (.str page), some (.int sort), some (.str key), some (.bl (s.on page)), some (.bl (s.mine page)), u10, u11, u12, u13, u14, u15, u16, u17, u18, u19] S := by
  obtain ⟨m_Shelf_open_page, m_Shelf_close_page, m_Shelf_begin, m_Shelf_set_row, m_Shelf_commit, m_Shelf_roll_back, m_Shelf_told, c__law_roll, c__law_kept, c__law_reads, ⟨fdT, FT⟩, TB, hne⟩ := V
  have hTu := hTu_of hne
  obtain ⟨oc, od, dV, kV, doc, pm, an, cdv, ct, osl, efd, lkT, hcdT, _, _⟩ := id FT.ex
  have bT : Binds K fdT ["what"] [] := FT.bindsN fun _ _ _ _ _ _ us hl => match us, hl with | [_], _ => rfl
  subst efd
  refine ⟨_, (dss_cons (ds_if (dt_cmp (od_ne rfl (hU_of hr)) (de_cmp (od_eq rfl (hU_of hr)) (de_told (T := tb K) (k := 10) rfl (by rfl) T.g__law_told FT.kp lkT hcdT bT sc_law_told rfl (Or.inl rfl) rfl T.g_StoreError T.e_StoreError_StoreError TB rfl List.mem_cons_self hTu (hr.mono (by decide)) (lamS_by (sc := defScope s_law) (by decide +kernel)) rfl (fun _ _ _ _ _ => rfl) (fun e' A outer s H E f c' hr => (de_meth (nm := nm_Shelf) rfl m_Shelf_open_page (by decide +kernel) dfl_nil hr (by decide) paLam (dv (pv 2)) (da_cons (dv (pv 5)) da_nil)))) de_str) (dv (pv 8))) (dss_one (ds_ret de_bl)) dss_nil)
  (dss_one (ds_asg (de_callTy (cd_pairsO rfl rfl) (by rfl) T.b_dict (by decide +kernel) (da_cons (de_op (od_add rfl) (de_listItems rfl (de_dget (hu_of hr) (dv (pv 3)) de_str (fun _ _ => rfl)) (by rfl) T.b_list (by decide +kernel)) (de_op od_mul (de_lst (da_cons (de_tup (da_cons (dv (pv 5)) (da_cons (de_lst da_nil) da_nil))) da_nil)) (de_callTy cd_int (by rfl) T.b_int (by decide +kernel) (da_cons (de_not rfl (dv (pv 8))) da_nil)))) da_nil)) (dg_subD (hu_of hr) (dv (pv 3)) de_str)))), fun D S d m o A B s k page key sort u0 u4 u10 u11 u12 u13 u14 u15 u16 u17 u18 u19 lw hk hp nx => ?_⟩
  obtain ⟨ok, l4, _, _⟩ := lw.ok (by omega)
  obtain ⟨rws, ch, pages⟩ := s
  have ins := lw.sh.ins
  have own_ : S o = some (.dic (rec3 (.ref B.r) (chO B ch) (.ref B.t))) := lw.ow.own
  walk_at "go"
  refine ⟨lw.tx, ?_⟩
  walk_at "go"
  refine ⟨m, A, _, page, rfl, lw.sh, by omega, ?_⟩
  have told_ : S B.t = some (.dic (encD toldD pages)) := lw.ow.told
  have l4 : pages.length ≤ 4 := l4
  have ndk : (pages.map (·.1)).Nodup := lw.sh.ndk
  refine ift_b (fun h1 => ?_) (fun h1 => ?_)
  · rw [h1]
    refine ⟨rfl, ?_⟩
    walk_at "go"
    refine ⟨⟨by decide, by decide, szl (by simp)⟩, ?_⟩
    rw [show (List.replicate (if (!true) = true then (1 : Int) else 0).toNat [Dt.tup [Dt.str page, Dt.lst []]]).flatten = [] from rfl]
    walk_at "go"
    refine ⟨encD toldD pages, by rw [List.append_nil], fun p np => ?_⟩
    rw [encD_merge ndk]
    have npo : p ≠ o := (ne_free own_ np).symm
    walk_at "go"
    rw [op3]
    exact nx _ _ A _ _ ⟨_, _, _, _, _, _, _, _, _, _, _, _, _, _, _, _, _, rfl⟩ ((lw.mid.told np pages).lw (lw.sm.mono (by omega)))
  · rw [h1]
    intro A' S' sh' f' n'
    have mid := lw.mid.shelf sh' f' n'
    have own1 : S' o = some (.dic (rec3 (.ref B.r) (chO B ch) (.ref B.t))) := mid.ow.own
    have told1 : S' B.t = some (.dic (encD toldD pages)) := mid.ow.told
    have hg : page ∉ pages.map (·.1) := of_decide_eq_false h1
    walk_at "go"
    refine ⟨⟨by decide, by decide, szl (by simp)⟩, ?_⟩
    rw [show (List.replicate (if (!false) = true then (1 : Int) else 0).toNat [Dt.tup [Dt.str page, Dt.lst []]]).flatten = [Dt.tup [Dt.str page, Dt.lst []]] from rfl]
    walk_at "go"
    refine ⟨encD toldD (pages ++ [(page, [])]), by rw [items_encD, items_encD, List.map_append]; rfl, fun p np => ?_⟩
    have ndk2 : ((pages ++ [(page, ([] : List (List Row3)))]).map (·.1)).Nodup := sh'.ndk
    rw [encD_merge ndk2]
    have npo : p ≠ o := (ne_free own1 np).symm
    walk_at "go"
    rw [op3]
    refine nx _ _ A' _ _ ⟨_, _, _, _, _, _, _, _, _, _, _, _, _, _, _, _, _, rfl⟩ (((mid.told np (pages ++ [(page, [])])).lw ⟨fun e he => ?_, lw.sm.rk, lw.sm.ck, fun x l hc => by rw [List.map_append]; exact List.mem_append_left _ (lw.sm.co x l hc)⟩))
    rcases List.mem_append.mp he with he | he
    · exact ⟨(lw.sm.pg e he).1, Nat.le_succ_of_le (lw.sm.pg e he).2⟩
    · rw [List.mem_singleton.mp he]
      exact ⟨hp, Nat.zero_le _⟩
end
end K17

open PySem PySem.Spec PyProof.Rows L2 Pr Dn LamX

namespace K17
section
variable {P : Program} {w : World} {K : PySem.W.Frag} {mg : Str → Option Value} {base : Heap}
local macro_rules | `(tactic| walk_at "q") => `(tactic| first
  | ((with_reducible show ∃ d, kGet (_ :: _) _ = some d ∧ _); refine ⟨_, by first | exact og1 | exact og2 | exact og3, ?_⟩))
theorem bl_roll (T : Tx K mg) {f c0 : Addr} {A0 : Around} {outer : List Env} {s0 : Shared} {HE : Hp} {E : XK} {e : DX} (V : Env17 P w K mg base c0) (hr : Room 14 (A0.deeper (envOfC "law" (defScope s_law) s0.heap.objs.size f (.ref c0)))) :
    ∃ t, PSs (lcx P w K mg base f (.ref c0) A0 outer s0 HE E) bd_roll (tDS K E e t) ∧ ∀ (D : DEnds) (S : Store) (d m o : Addr) (A : Ad) (B : Ow) (s : Sh) (k : Nat) (page key : Str) (sort : Int) (u0 u4 u10 u11 u12 u13 u14 u15 u16 u17 u18 u19 : Option Dt), LwAt K S d m o A B s k → k ≤ 90 → page ∈ pqrs → key ∈ abc →
      (∀ δ' S' A' B' s', Sl δ' d m o → LwAt K S' d m o A' B' s' (k + 1) → D.nx δ' S') → t D [u0, some (.ref d), some (.ref m), some (.ref o), u4, some (.str page), some (.int sort), some (.str key), some (.bl (s.on page)), some (.bl (s.mine page)), u10, u11, u12, u13, u14, u15, u16, u17, u18, u19] S := by
  obtain ⟨m_Shelf_open_page, m_Shelf_close_page, m_Shelf_begin, m_Shelf_set_row, m_Shelf_commit, m_Shelf_roll_back, m_Shelf_told, c__law_roll, c__law_kept, c__law_reads, ⟨fdT, FT⟩, TB, hne⟩ := V
  have hTu := hTu_of hne
  obtain ⟨oc, od, dV, kV, doc, pm, an, cdv, ct, osl, efd, lkT, hcdT, _, _⟩ := id FT.ex
  have bT : Binds K fdT ["what"] [] := FT.bindsN fun _ _ _ _ _ _ us hl => match us, hl with | [_], _ => rfl
  subst efd
  refine ⟨_, (dss_cons (ds_if (dt_cmp (od_ne rfl (hU_of hr)) (de_cmp (od_eq rfl (hU_of hr)) (de_told (T := tb K) (k := 10) rfl (by rfl) T.g__law_told FT.kp lkT hcdT bT sc_law_told rfl (Or.inl rfl) rfl T.g_StoreError T.e_StoreError_StoreError TB rfl List.mem_cons_self hTu (hr.mono (by decide)) (lamS_by (sc := defScope s_law) (by decide +kernel)) rfl (fun _ _ _ _ _ => rfl) (fun e' A outer s H E f c' hr => (de_meth (nm := nm_Shelf) rfl m_Shelf_roll_back (by decide +kernel) dfl_nil hr (by decide) paLam (dv (pv 2)) (da_cons (dv (pv 5)) da_nil)))) de_str) (de_not rfl (de_and rfl (dv (pv 8)) (pe_one (dv (pv 9)))))) (dss_one (ds_ret de_bl)) dss_nil)
  (dss_one (ds_asg (de_if (PW.pt (dt_and (de_tru rfl (dv (pv 8))) (pw_and1 (de_tru rfl (dv (pv 9)))))) de_non (de_dget (hu_of hr) (dv (pv 3)) de_str (fun _ _ => rfl))) (dg_subD (hu_of hr) (dv (pv 3)) de_str)))), fun D S d m o A B s k page key sort u0 u4 u10 u11 u12 u13 u14 u15 u16 u17 u18 u19 lw hk hp hkey nx => ?_⟩
  obtain ⟨ok, l4, l3, lc3⟩ := lw.ok (by omega)
  obtain ⟨rws, ch, pages⟩ := s
  have ins := lw.sh.ins
  have own_ : S o = some (.dic (rec3 (.ref B.r) (chO B ch) (.ref B.t))) := lw.ow.own
  have told_ : S B.t = some (.dic (encD toldD pages)) := lw.ow.told
  have l4 : pages.length ≤ 4 := l4
  have ndk : (pages.map (·.1)).Nodup := lw.sh.ndk
  walk_at "go"
  refine ⟨lw.tx, ?_⟩
  walk_at "go"
  refine ⟨m, A, _, page, rfl, lw.sh, ?_⟩
  generalize hon : Sh.on ⟨rws, ch, pages⟩ page = on
  generalize hmi : Sh.mine ⟨rws, ch, pages⟩ page = mi
  cases on with
  | false =>
    refine ⟨rfl, ?_⟩
    walk_at "go"
    rw [op2, sput_self own_]
    exact nx _ _ A B _ ⟨_, _, _, _, _, _, _, _, _, _, _, _, _, _, _, _, _, rfl⟩ (lw.mid.lw (lw.sm.mono (by omega)))
  | true =>
    cases mi with
    | false =>
      refine ⟨rfl, ?_⟩
      walk_at "go"
      rw [op2, sput_self own_]
      exact nx _ _ A B _ ⟨_, _, _, _, _, _, _, _, _, _, _, _, _, _, _, _, _, rfl⟩ (lw.mid.lw (lw.sm.mono (by omega)))
    | true =>
      intro A' S' sh' f' n'
      have mid := lw.mid.shelf sh' f' n'
      have own1 : S' o = some (.dic (rec3 (.ref B.r) (chO B ch) (.ref B.t))) := mid.ow.own
      walk_at "go"
      rw [op2]
      exact nx _ _ A' B _ ⟨_, _, _, _, _, _, _, _, _, _, _, _, _, _, _, _, _, rfl⟩ (mid.noc.lw ⟨fun e he => ⟨(lw.sm.pg e he).1, Nat.le_succ_of_le (lw.sm.pg e he).2⟩, lw.sm.rk, fun p l z => (by cases z), fun p l z => (by cases z)⟩)
theorem bl_begin (T : Tx K mg) {f c0 : Addr} {A0 : Around} {outer : List Env} {s0 : Shared} {HE : Hp} {E : XK} {e : DX} (V : Env17 P w K mg base c0) (hr : Room 14 (A0.deeper (envOfC "law" (defScope s_law) s0.heap.objs.size f (.ref c0)))) :
    ∃ t, PSs (lcx P w K mg base f (.ref c0) A0 outer s0 HE E) bd_begin (tDS K E e t) ∧ ∀ (D : DEnds) (S : Store) (d m o : Addr) (A : Ad) (B : Ow) (s : Sh) (k : Nat) (page key : Str) (sort : Int) (u0 u4 u10 u11 u12 u13 u14 u15 u16 u17 u18 u19 : Option Dt), LwAt K S d m o A B s k → k ≤ 90 → page ∈ pqrs → key ∈ abc →
      (∀ δ' S' A' B' s', Sl δ' d m o → LwAt K S' d m o A' B' s' (k + 1) → D.nx δ' S') → t D [u0, some (.ref d), some (.ref m), some (.ref o), u4, some (.str page), some (.int sort), some (.str key), some (.bl (s.on page)), some (.bl (s.mine page)), u10, u11, u12, u13, u14, u15, u16, u17, u18, u19] S := by
  obtain ⟨m_Shelf_open_page, m_Shelf_close_page, m_Shelf_begin, m_Shelf_set_row, m_Shelf_commit, m_Shelf_roll_back, m_Shelf_told, c__law_roll, c__law_kept, c__law_reads, ⟨fdT, FT⟩, TB, hne⟩ := V
  have hTu := hTu_of hne
  obtain ⟨oc, od, dV, kV, doc, pm, an, cdv, ct, osl, efd, lkT, hcdT, _, _⟩ := id FT.ex
  have bT : Binds K fdT ["what"] [] := FT.bindsN fun _ _ _ _ _ _ us hl => match us, hl with | [_], _ => rfl
  subst efd
  refine ⟨_, (dss_cons (ds_set (i := 10) sc_law.nd rfl (Or.inl rfl) (de_and rfl (dv (pv 8)) (pe_one (de_cmp od_is (de_dget (hu_of hr) (dv (pv 3)) de_str (fun _ _ => rfl)) de_non))))
  (dss_cons (ds_if (dt_cmp (od_ne rfl (hU_of hr)) (de_cmp (od_eq rfl (hU_of hr)) (de_told (T := tb K) (k := 10) rfl (by rfl) T.g__law_told FT.kp lkT hcdT bT sc_law_told rfl (Or.inl rfl) rfl T.g_StoreError T.e_StoreError_StoreError TB rfl List.mem_cons_self hTu (hr.mono (by decide)) (lamS_by (sc := defScope s_law) (by decide +kernel)) rfl (fun _ _ _ _ _ => rfl) (fun e' A outer s H E f c' hr => (de_meth (nm := nm_Shelf) rfl m_Shelf_begin (by decide +kernel) dfl_nil hr (by decide) paLam (dv (pv 2)) (da_cons (dv (pv 5)) da_nil)))) de_str) (de_not rfl (dv (pv 10)))) (dss_one (ds_ret de_bl)) dss_nil)
  (dss_one (ds_asg (de_if (de_tru rfl (dv (pv 10))) (de_tup (da_cons (dv (pv 5)) (da_cons de_dnewO da_nil))) (de_dget (hu_of hr) (dv (pv 3)) de_str (fun _ _ => rfl))) (dg_subD (hu_of hr) (dv (pv 3)) de_str))))), fun D S d m o A B s k page key sort u0 u4 u10 u11 u12 u13 u14 u15 u16 u17 u18 u19 lw hk hp hkey nx => ?_⟩
  obtain ⟨ok, l4, l3, lc3⟩ := lw.ok (by omega)
  obtain ⟨rws, ch, pages⟩ := s
  have ins := lw.sh.ins
  have own_ : S o = some (.dic (rec3 (.ref B.r) (chO B ch) (.ref B.t))) := lw.ow.own
  have told_ : S B.t = some (.dic (encD toldD pages)) := lw.ow.told
  have l4 : pages.length ≤ 4 := l4
  have ndk : (pages.map (·.1)).Nodup := lw.sh.ndk
  generalize hon : Sh.on ⟨rws, ch, pages⟩ page = on
  have same : ∀ u, Sl [u0, some (.ref d), some (.ref m), some (.ref o), u4, some (.str page), some (.int sort), some (.str key), some (.bl on), some (.bl (Sh.mine ⟨rws, ch, pages⟩ page)), u, u11, u12, u13, u14, u15, u16, u17, u18, u19] d m o := fun u => ⟨_, _, _, _, _, _, _, _, _, _, _, _, _, _, _, _, _, rfl⟩
  cases on with
  | false =>
    walk_at "go"
    refine ⟨lw.tx, ?_⟩
    walk_at "go"
    refine ⟨m, A, _, page, rfl, lw.sh, ?_⟩
    rw [hon]
    refine ⟨rfl, ?_⟩
    walk_at "go"
    rw [op2, sput_self own_]
    exact nx _ _ A B _ (same _) (lw.mid.lw (lw.sm.mono (by omega)))
  | true =>
    cases ch with
    | some c =>
      obtain ⟨x, l⟩ := c
      walk_at "go"
      refine ⟨lw.tx, ?_⟩
      walk_at "go"
      refine ⟨m, A, _, page, rfl, lw.sh, ?_⟩
      rw [hon]
      refine ⟨rfl, ?_⟩
      walk_at "go"
      rw [show Dn.isNon (chO B (some (x, l))) = false from rfl]
      walk_at "go"
      rw [op2, sput_self own_]
      exact nx _ _ A B _ (same _) (lw.mid.lw (lw.sm.mono (by omega)))
    | none =>
      walk_at "go"
      refine ⟨lw.tx, ?_⟩
      walk_at "go"
      refine ⟨m, A, _, page, rfl, lw.sh, ?_⟩
      rw [hon]
      intro A' S' sh' f' n'
      have mid := lw.mid.shelf sh' f' n'
      have own1 : S' o = some (.dic (rec3 (.ref B.r) .non (.ref B.t))) := mid.ow.own
      walk_at "go"
      intro p np
      have npo : p ≠ o := (ne_free own1 np).symm
      walk_at "go"
      rw [op2]
      exact nx _ _ A' _ _ (same _) ((mid.newc np page).lw ⟨fun e he => ⟨(lw.sm.pg e he).1, Nat.le_succ_of_le (lw.sm.pg e he).2⟩, lw.sm.rk, fun p l z => (by cases z; exact fun e he => by cases he), fun p l z => (by cases z; exact of_decide_eq_true hon)⟩)
theorem bl_close (T : Tx K mg) {f c0 : Addr} {A0 : Around} {outer : List Env} {s0 : Shared} {HE : Hp} {E : XK} {e : DX} (V : Env17 P w K mg base c0) (hr : Room 14 (A0.deeper (envOfC "law" (defScope s_law) s0.heap.objs.size f (.ref c0)))) :
    ∃ t, PSs (lcx P w K mg base f (.ref c0) A0 outer s0 HE E) bd_close (tDS K E e t) ∧ ∀ (D : DEnds) (S : Store) (d m o : Addr) (A : Ad) (B : Ow) (s : Sh) (k : Nat) (page key : Str) (sort : Int) (u0 u4 u10 u11 u12 u13 u14 u15 u16 u17 u18 u19 : Option Dt), LwAt K S d m o A B s k → k ≤ 90 → page ∈ pqrs → key ∈ abc →
      (∀ δ' S' A' B' s', Sl δ' d m o → LwAt K S' d m o A' B' s' (k + 1) → D.nx δ' S') → t D [u0, some (.ref d), some (.ref m), some (.ref o), u4, some (.str page), some (.int sort), some (.str key), some (.bl (s.on page)), some (.bl (s.mine page)), u10, u11, u12, u13, u14, u15, u16, u17, u18, u19] S := by
  obtain ⟨m_Shelf_open_page, m_Shelf_close_page, m_Shelf_begin, m_Shelf_set_row, m_Shelf_commit, m_Shelf_roll_back, m_Shelf_told, c__law_roll, c__law_kept, c__law_reads, ⟨fdT, FT⟩, TB, hne⟩ := V
  have hTu := hTu_of hne
  obtain ⟨oc, od, dV, kV, doc, pm, an, cdv, ct, osl, efd, lkT, hcdT, _, _⟩ := id FT.ex
  have bT : Binds K fdT ["what"] [] := FT.bindsN fun _ _ _ _ _ _ us hl => match us, hl with | [_], _ => rfl
  subst efd
  refine ⟨_, (dss_cons (ds_if (dt_cmp (od_ne rfl (hU_of hr)) (de_cmp (od_eq rfl (hU_of hr)) (de_told (T := tb K) (k := 10) rfl (by rfl) T.g__law_told FT.kp lkT hcdT bT sc_law_told rfl (Or.inl rfl) rfl T.g_StoreError T.e_StoreError_StoreError TB rfl List.mem_cons_self hTu (hr.mono (by decide)) (lamS_by (sc := defScope s_law) (by decide +kernel)) rfl (fun _ _ _ _ _ => rfl) (fun e' A outer s H E f c' hr => (de_meth (nm := nm_Shelf) rfl m_Shelf_close_page (by decide +kernel) dfl_nil hr (by decide) paLam (dv (pv 2)) (da_cons (dv (pv 5)) da_nil)))) de_str) (de_not rfl (dv (pv 8)))) (dss_one (ds_ret de_bl)) dss_nil)
  (dss_cons (ds_asg (de_callTy (cd_pairsO rfl rfl) (by rfl) T.b_dict (by decide +kernel) (da_cons (de_lock (de_lc (own := [("one", 18)]) rfl sc_law.nd (di_keys (de_dget (hu_of hr) (dv (pv 3)) de_str (fun _ _ => rfl))) (blkOk_by (own := [("one", 18)]) (N := sl_law) (sc := defScope s_law) (by decide +kernel)) (fun _ _ _ _ _ => (gw_name (i := 18) sc_law.nd rfl (Or.inl rfl) (by decide))) (fun _ _ _ _ _ => (ts_one (dt_cmp (od_ne rfl (hU_of hr)) (dv (pv 18)) (dv (pv 5))))) (fun _ _ _ _ _ => (de_tup (da_cons (dv (pv 18)) (da_cons (de_dget (hu_of hr) (de_dget (hu_of hr) (dv (pv 3)) de_str (fun _ _ => rfl)) (dv (pv 18)) (fun _ _ => rfl)) da_nil)))))) da_nil)) (dg_subD (hu_of hr) (dv (pv 3)) de_str))
  (dss_one (ds_asg (de_if (de_tru rfl (dv (pv 9))) de_non (de_dget (hu_of hr) (dv (pv 3)) de_str (fun _ _ => rfl))) (dg_subD (hu_of hr) (dv (pv 3)) de_str))))), fun D S d m o A B s k page key sort u0 u4 u10 u11 u12 u13 u14 u15 u16 u17 u18 u19 lw hk hp hkey nx => ?_⟩
  obtain ⟨ok, l4, l3, lc3⟩ := lw.ok (by omega)
  obtain ⟨rws, ch, pages⟩ := s
  have ins := lw.sh.ins
  have own_ : S o = some (.dic (rec3 (.ref B.r) (chO B ch) (.ref B.t))) := lw.ow.own
  have told_ : S B.t = some (.dic (encD toldD pages)) := lw.ow.told
  have l4 : pages.length ≤ 4 := l4
  have ndk : (pages.map (·.1)).Nodup := lw.sh.ndk
  walk_at "go"
  refine ⟨lw.tx, ?_⟩
  walk_at "go"
  refine ⟨m, A, _, page, rfl, lw.sh, by omega, ?_⟩
  generalize hon : Sh.on ⟨rws, ch, pages⟩ page = on
  have enc3 : ∀ (pg : List (Str × List (List Row3))), pg.filterMap (fun e => if e.1 = page then none else some (Dt.tup [.str e.1, toldD e.2])) = (encD toldD (aDrop pg page)).map fun p => Dt.tup [keyD p.1, p.2] := fun pg => by
    rw [items_encD]
    exact fm_if (p := fun e : Str × List (List Row3) => e.1 = page) (g := fun e => Dt.tup [.str e.1, toldD e.2])
  cases on with
  | false =>
    refine ⟨rfl, ?_⟩
    walk_at "go"
    refine ⟨B.t, _, told_, fun o' => ?_⟩
    have nto : o ≠ B.t := lw.ow.ort.2.1
    walk_at "go"
    rw [keys_encD]
    refine lcGo_pure (fun e : Str × List (List Row3) => Dt.str e.1) (fun e => if e.1 = page then none else some (.tup [.str e.1, toldD e.2])) sput_same pages [] (fun x hx kY kN h3 h4 => ?_) ?_
    · walk_at "go"
      refine iftN (p := x.1 = page) (fun h5 => ?_) (fun h5 => ?_)
      · walk_at "go"
        refine ⟨_, get_enc ndk hx, ?_⟩
        exact h3 _ (if_neg h5)
      · exact h4 (if_pos h5)
    · rw [List.nil_append]
      refine ⟨sput_same, ?_⟩
      rw [sput_back told_]
      walk_at "go"
      refine ⟨encD toldD (aDrop pages page), enc3 pages, fun p np => ?_⟩
      rw [encD_merge (aDrop_nd ndk)]
      have npo : p ≠ o := (ne_free own_ np).symm
      walk_at "go"
      have hno : page ∉ pages.map (·.1) := of_decide_eq_false hon
      have hmi : Sh.mine ⟨rws, ch, pages⟩ page = false := by
        cases ch with
        | none => rfl
        | some c =>
          obtain ⟨x, l⟩ := c
          exact decide_eq_false fun z => hno (z ▸ lw.sm.co x l rfl)
      have ed : aDrop pages page = pages := List.filter_eq_self.mpr fun e he => decide_eq_true fun z => hno (List.mem_map.mpr ⟨e, he, z⟩)
      rw [hmi, op3]
      walk_at "go"
      rw [op2, sput_sput, ed]
      exact nx _ _ A _ _ ⟨_, _, _, _, _, _, _, _, _, _, _, _, _, _, _, _, _, rfl⟩ ((lw.mid.told np pages).lw (lw.sm.mono (by omega)))
  | true =>
    intro A' S' sh' f' n'
    have mid := lw.mid.shelf sh' f' n'
    have own1 : S' o = some (.dic (rec3 (.ref B.r) (chO B ch) (.ref B.t))) := mid.ow.own
    have told1 : S' B.t = some (.dic (encD toldD pages)) := mid.ow.told
    walk_at "go"
    refine ⟨B.t, _, told1, fun o' => ?_⟩
    have nto : o ≠ B.t := lw.ow.ort.2.1
    walk_at "go"
    rw [keys_encD]
    refine lcGo_pure (fun e : Str × List (List Row3) => Dt.str e.1) (fun e => if e.1 = page then none else some (.tup [.str e.1, toldD e.2])) sput_same pages [] (fun x hx kY kN h3 h4 => ?_) ?_
    · walk_at "go"
      refine iftN (p := x.1 = page) (fun h5 => ?_) (fun h5 => ?_)
      · walk_at "go"
        refine ⟨_, get_enc ndk hx, ?_⟩
        exact h3 _ (if_neg h5)
      · exact h4 (if_pos h5)
    · rw [List.nil_append]
      refine ⟨sput_same, ?_⟩
      rw [sput_back told1]
      walk_at "go"
      refine ⟨encD toldD (aDrop pages page), enc3 pages, fun p np => ?_⟩
      rw [encD_merge (aDrop_nd ndk)]
      have npo : p ≠ o := (ne_free own1 np).symm
      have pg2 : ∀ e ∈ aDrop pages page, e.1 ∈ pqrs ∧ e.2.length ≤ k + 1 := fun e he => ⟨(lw.sm.pg e (aDrop_mem.mp he).1).1, Nat.le_succ_of_le (lw.sm.pg e (aDrop_mem.mp he).1).2⟩
      have mid2 := mid.told np (aDrop pages page)
      walk_at "go"
      cases hmi : Sh.mine ⟨rws, ch, pages⟩ page with
      | true =>
        rw [if_pos hmi] at mid2
        rw [op3]
        walk_at "go"
        rw [op2, sput_sput]
        have mid3 := mid2.noc
        rw [sput_sput] at mid3
        exact nx _ _ A' _ _ ⟨_, _, _, _, _, _, _, _, _, _, _, _, _, _, _, _, _, rfl⟩ (mid3.lw ⟨pg2, lw.sm.rk, fun x l z => (by cases z), fun x l z => (by cases z)⟩)
      | false =>
        rw [if_neg (by rw [hmi]; exact Bool.false_ne_true)] at mid2
        rw [op3]
        walk_at "go"
        rw [op2, sput_sput]
        refine nx _ _ A' _ _ ⟨_, _, _, _, _, _, _, _, _, _, _, _, _, _, _, _, _, rfl⟩ (mid2.lw ⟨pg2, lw.sm.rk, lw.sm.ck, fun x l z => ?_⟩)
        obtain ⟨e, he, hx⟩ := List.mem_map.mp (lw.sm.co x l z)
        refine List.mem_map.mpr ⟨e, aDrop_mem.mpr ⟨he, fun y => ?_⟩, hx⟩
        have z : ch = some (x, l) := z
        subst z
        have : decide (x = page) = false := hmi
        exact of_decide_eq_false this (hx.symm.trans y)
end
end K17

open PySem PySem.Spec PyProof.Rows L2 Pr Dn LamX

namespace K17
theorem Mid.setc {K : PySem.W.Frag} {S : Store} {d m o : Addr} {A : Ad} {B : Ow} {s s2 : Sh} {x : Str} {l : List (Str × Option Str)} (h : Mid K S d m o A B s s2) (hc : s2.change = some (x, l)) (k : Str) (v : Option Str) : Mid K (sput S B.c (.dic (encD oS (aPut l k v)))) d m o A B s { s2 with change := some (x, aPut l k v) } := by
  have e0 := h.ow.own
  rw [hc] at e0
  have e1 := h.ow.rows
  have e2 := h.ow.told
  obtain ⟨c1, c2, c3⟩ := h.ow.cd x l hc
  have cm : B.c ∈ owA o B s2 := owA_mem.mpr (.inr (.inr (.inr (by unfold chB; rw [hc]; exact List.mem_cons_self))))
  refine h.own (B' := B) (s' := { s2 with change := some (x, aPut l k v) }) ⟨by walk_at "su", by walk_at "su", by walk_at "su", fun p l' z => (by cases z; exact sput_same), h.ow.ort, fun p l' z => (by cases z; exact ⟨c1, c2, c3⟩)⟩ (Frm.refl.mut cm) (fun b hb => .inl ?_)
  rcases owA_mem.mp hb with z | z | z | z
  · exact owA_mem.mpr (.inl z)
  · exact owA_mem.mpr (.inr (.inl z))
  · exact owA_mem.mpr (.inr (.inr (.inl z)))
  · rw [List.mem_singleton.mp z]; exact cm
theorem after_keys {e : Str × Str} : ∀ {l : List (Str × Option Str)} {rows : List (Str × Str)}, e ∈ afterOf rows l → e.1 ∈ rows.map (·.1) ∨ e.1 ∈ l.map (·.1)
  | [], rows, h => .inl (List.mem_map.mpr ⟨e, h, rfl⟩)
  | c :: r, rows, h => by
    have h : e ∈ afterOf (aftS rows c) r := h
    rcases after_keys h with h | h
    · obtain ⟨e0, he0, hx⟩ := List.mem_map.mp h
      obtain ⟨k, v⟩ := c
      cases v with
      | none => exact .inl (List.mem_map.mpr ⟨e0, (aDrop_mem.mp he0).1, hx⟩)
      | some z =>
        rcases aPut_mem he0 with rfl | ⟨he0, _⟩
        · exact .inr (by rw [← hx]; exact List.mem_cons_self)
        · exact .inl (List.mem_map.mpr ⟨e0, (aDrop_mem.mp he0).1, hx⟩)
    · exact .inr (List.mem_cons_of_mem _ h)
def clr (s : List (Str × List (List Row3))) (page : Str) : List (Str × List (List Row3)) := s.map fun e => if e.1 = page then (e.1, []) else e
theorem clr_keys {s : List (Str × List (List Row3))} {page : Str} : (clr s page).map (·.1) = s.map (·.1) := by
  unfold clr
  rw [List.map_map]
  refine List.map_congr_left fun e _ => ?_
  by_cases h : e.1 = page
  · simp only [Function.comp, if_pos h]
  · simp only [Function.comp, if_neg h]
theorem clr_put {s : List (Str × List (List Row3))} {page : Str} {l : List (List Row3)} (h : aGet s page = some l) : aPut s page [] = clr s page := by
  unfold aPut
  rw [if_pos (List.any_eq_true.mpr ⟨_, aGet_mem h, decide_eq_true rfl⟩)]
  rfl
theorem clr_none {s : List (Str × List (List Row3))} {page : Str} (h : aGet s page = none) : clr s page = s := by
  have e := List.map_congr_left (l := s) (f := fun e => if e.1 = page then (e.1, []) else e) (g := id) fun e he => if_neg fun z => aGet_none.mp h e.2 (by rw [← z]; exact he)
  rw [List.map_id] at e
  exact e
theorem clr_enc {s : List (Str × List (List Row3))} {page : Str} : s.filterMap (fun e => some (Dt.tup [.str e.1, if e.1 = page then .lst [] else toldD e.2])) = (encD toldD (clr s page)).map fun p => Dt.tup [keyD p.1, p.2] := by
  rw [items_encD]
  unfold clr
  rw [List.map_map]
  refine (congrFun List.filterMap_eq_map s).trans (List.map_congr_left fun e _ => ?_)
  by_cases h : e.1 = page
  · simp only [Function.comp, if_pos h]
    rfl
  · simp only [Function.comp, if_neg h]
section
variable {P : Program} {w : World} {K : PySem.W.Frag} {mg : Str → Option Value} {base : Heap}
local macro_rules | `(tactic| walk_at "q") => `(tactic| first
  | ((with_reducible show ∃ d, kGet (_ :: _) _ = some d ∧ _); refine ⟨_, by first | exact og1 | exact og2 | exact og3, ?_⟩))
theorem bl_told (T : Tx K mg) {f c0 : Addr} {A0 : Around} {outer : List Env} {s0 : Shared} {HE : Hp} {E : XK} {e : DX} (V : Env17 P w K mg base c0) (hr : Room 14 (A0.deeper (envOfC "law" (defScope s_law) s0.heap.objs.size f (.ref c0)))) :
    ∃ t, PSs (lcx P w K mg base f (.ref c0) A0 outer s0 HE E) bd_told (tDS K E e t) ∧ ∀ (D : DEnds) (S : Store) (d m o : Addr) (A : Ad) (B : Ow) (s : Sh) (k : Nat) (page key : Str) (sort : Int) (u0 u4 u10 u11 u12 u13 u14 u15 u16 u17 u18 u19 : Option Dt), LwAt K S d m o A B s k → k ≤ 90 → page ∈ pqrs → key ∈ abc →
      (∀ δ' S' A' B' s', Sl δ' d m o → LwAt K S' d m o A' B' s' (k + 1) → D.nx δ' S') → t D [u0, some (.ref d), some (.ref m), some (.ref o), u4, some (.str page), some (.int sort), some (.str key), some (.bl (s.on page)), some (.bl (s.mine page)), u10, u11, u12, u13, u14, u15, u16, u17, u18, u19] S := by
  obtain ⟨m_Shelf_open_page, m_Shelf_close_page, m_Shelf_begin, m_Shelf_set_row, m_Shelf_commit, m_Shelf_roll_back, m_Shelf_told, c__law_roll, c__law_kept, c__law_reads, ⟨fdT, FT⟩, TB, hne⟩ := V
  have hTu := hTu_of hne
  obtain ⟨oc, od, dV, kV, doc, pm, an, cdv, ct, osl, efd, lkT, hcdT, _, _⟩ := id FT.ex
  have bT : Binds K fdT ["what"] [] := FT.bindsN fun _ _ _ _ _ _ us hl => match us, hl with | [_], _ => rfl
  subst efd
  refine ⟨_, (dss_cons (ds_set (i := 14) sc_law.nd rfl (Or.inl rfl) (de_tupOf rfl (by rfl) T.b_tuple (de_dget2 (hu_of hr) (de_dget (hu_of hr) (dv (pv 3)) de_str (fun _ _ => rfl)) (dv (pv 5)) (de_lst da_nil) ⟨by rfl, by rfl, by rfl, by rfl⟩)))
  (dss_cons (ds_if (dt_cmp (od_ne rfl (hU_of hr)) (de_told (T := tb K) (k := 10) rfl (by rfl) T.g__law_told FT.kp lkT hcdT bT sc_law_told rfl (Or.inl rfl) rfl T.g_StoreError T.e_StoreError_StoreError TB rfl List.mem_cons_self hTu (hr.mono (by decide)) (lamS_by (sc := defScope s_law) (by decide +kernel)) rfl (fun _ _ _ _ _ => rfl) (fun e' A outer s H E f c' hr => (de_meth (nm := nm_Shelf) rfl m_Shelf_told (by decide +kernel) dfl_nil hr (by decide) paLam (dv (pv 2)) (da_cons (dv (pv 5)) da_nil)))) (de_if (de_tru rfl (dv (pv 8))) (dv (pv 14)) de_str)) (dss_one (ds_ret de_bl)) dss_nil)
  (dss_one (ds_asg (de_callTy (cd_pairsO rfl rfl) (by rfl) T.b_dict (by decide +kernel) (da_cons (de_lock (de_lc (own := [("one", 18)]) rfl sc_law.nd (di_keys (de_dget (hu_of hr) (dv (pv 3)) de_str (fun _ _ => rfl))) (blkOk_by (own := [("one", 18)]) (N := sl_law) (sc := defScope s_law) (by decide +kernel)) (fun _ _ _ _ _ => (gw_name (i := 18) sc_law.nd rfl (Or.inl rfl) (by decide))) (fun _ _ _ _ _ => ts_nil) (fun _ _ _ _ _ => (de_tup (da_cons (dv (pv 18)) (da_cons (de_if (dt_cmp (od_ne rfl (hU_of hr)) (dv (pv 18)) (dv (pv 5))) (de_dget (hu_of hr) (de_dget (hu_of hr) (dv (pv 3)) de_str (fun _ _ => rfl)) (dv (pv 18)) (fun _ _ => rfl)) (de_lst da_nil)) da_nil)))))) da_nil)) (dg_subD (hu_of hr) (dv (pv 3)) de_str))))), fun D S d m o A B s k page key sort u0 u4 u10 u11 u12 u13 u14 u15 u16 u17 u18 u19 lw hk hp hkey nx => ?_⟩
  obtain ⟨ok, l4, l3, lc3⟩ := lw.ok (by omega)
  obtain ⟨rws, ch, pages⟩ := s
  have ins := lw.sh.ins
  have own_ : S o = some (.dic (rec3 (.ref B.r) (chO B ch) (.ref B.t))) := lw.ow.own
  have told_ : S B.t = some (.dic (encD toldD pages)) := lw.ow.told
  have l4 : pages.length ≤ 4 := l4
  have ndk : (pages.map (·.1)).Nodup := lw.sh.ndk
  have nto : o ≠ B.t := lw.ow.ort.2.1
  cases hg : aGet pages page with
  | none =>
    walk_at "go"
    rw [show (kGet (encD toldD pages) (Sum.inr page)).getD (Dt.lst []) = .lst [] from by rw [encD_get, hg]; rfl]
    rw [on_none (s := ⟨rws, ch, pages⟩) hg]
    walk_at "go"
    refine ⟨lw.tx, ?_⟩
    walk_at "go"
    refine ⟨m, A, _, page, rfl, lw.sh, by omega, ?_⟩
    rw [show aGet (Sh.pages ⟨rws, ch, pages⟩) page = none from hg]
    refine ⟨rfl, ?_⟩
    walk_at "go"
    refine ⟨B.t, _, told_, fun o' => ?_⟩
    walk_at "go"
    rw [keys_encD]
    refine lcGo_pure (fun e : Str × List (List Row3) => Dt.str e.1) (fun e => some (Dt.tup [.str e.1, if e.1 = page then .lst [] else toldD e.2])) sput_same pages [] (fun x hx kY kN h3 h4 => ?_) ?_
    · walk_at "go"
      refine iftN (p := x.1 = page) (fun h5 => ?_) (fun h5 => ?_)
      · walk_at "go"
        refine ⟨_, get_enc ndk hx, ?_⟩
        exact h3 _ (by rw [if_neg h5])
      · walk_at "go"
        exact h3 _ (by rw [if_pos h5])
    · rw [List.nil_append]
      refine ⟨sput_same, ?_⟩
      rw [sput_back told_]
      walk_at "go"
      refine ⟨encD toldD (clr pages page), clr_enc, fun p np => ?_⟩
      rw [encD_merge (by rw [clr_keys]; exact ndk)]
      have npo : p ≠ o := (ne_free own_ np).symm
      walk_at "go"
      rw [op3]
      have ed : clr pages page = pages := clr_none hg
      rw [ed]
      exact nx _ _ A _ _ ⟨_, _, _, _, _, _, _, _, _, _, _, _, _, _, _, _, _, rfl⟩ ((lw.mid.told np pages).lw (lw.sm.mono (by omega)))
  | some l =>
    walk_at "go"
    rw [show (kGet (encD toldD pages) (Sum.inr page)).getD (Dt.lst []) = toldD l from by rw [encD_get, hg]; rfl]
    rw [on_some (s := ⟨rws, ch, pages⟩) hg]
    walk_at "go"
    refine ⟨lw.tx, ?_⟩
    walk_at "go"
    refine ⟨m, A, _, page, rfl, lw.sh, by omega, ?_⟩
    rw [show aGet (Sh.pages ⟨rws, ch, pages⟩) page = some l from hg]
    intro A' S' sh' f' n'
    have mid := lw.mid.shelf sh' f' n'
    have own1 : S' o = some (.dic (rec3 (.ref B.r) (chO B ch) (.ref B.t))) := mid.ow.own
    have told1 : S' B.t = some (.dic (encD toldD pages)) := mid.ow.told
    walk_at "go"
    refine tells_rows.tup.neS (a := l) (by decide) ?_
    walk_at "go"
    refine ⟨B.t, _, told1, fun o' => ?_⟩
    walk_at "go"
    rw [keys_encD]
    refine lcGo_pure (fun e : Str × List (List Row3) => Dt.str e.1) (fun e => some (Dt.tup [.str e.1, if e.1 = page then .lst [] else toldD e.2])) sput_same pages [] (fun x hx kY kN h3 h4 => ?_) ?_
    · walk_at "go"
      refine iftN (p := x.1 = page) (fun h5 => ?_) (fun h5 => ?_)
      · walk_at "go"
        refine ⟨_, get_enc ndk hx, ?_⟩
        exact h3 _ (by rw [if_neg h5])
      · walk_at "go"
        exact h3 _ (by rw [if_pos h5])
    · rw [List.nil_append]
      refine ⟨sput_same, ?_⟩
      rw [sput_back told1]
      walk_at "go"
      refine ⟨encD toldD (clr pages page), clr_enc, fun p np => ?_⟩
      rw [encD_merge (by rw [clr_keys]; exact ndk)]
      have npo : p ≠ o := (ne_free own1 np).symm
      walk_at "go"
      rw [op3]
      have mid2 := mid.told np (clr pages page)
      rw [show aPut pages page [] = clr pages page from clr_put hg] at mid2
      refine nx _ _ A' _ _ ⟨_, _, _, _, _, _, _, _, _, _, _, _, _, _, _, _, _, rfl⟩ (mid2.lw ⟨fun e he => ?_, lw.sm.rk, lw.sm.ck, fun x y z => by rw [clr_keys]; exact lw.sm.co x y z⟩)
      obtain ⟨e0, he0, rfl⟩ := List.mem_map.mp he
      by_cases h : e0.1 = page
      · rw [if_pos h]
        exact ⟨(lw.sm.pg e0 he0).1, Nat.zero_le _⟩
      · rw [if_neg h]
        exact ⟨(lw.sm.pg e0 he0).1, Nat.le_succ_of_le (lw.sm.pg e0 he0).2⟩
theorem bl_commit (T : Tx K mg) {f c0 : Addr} {A0 : Around} {outer : List Env} {s0 : Shared} {HE : Hp} {E : XK} {e : DX} (V : Env17 P w K mg base c0) (hr : Room 14 (A0.deeper (envOfC "law" (defScope s_law) s0.heap.objs.size f (.ref c0)))) :
    ∃ t, PSs (lcx P w K mg base f (.ref c0) A0 outer s0 HE E) bd_commit (tDS K E e t) ∧ ∀ (D : DEnds) (S : Store) (d m o : Addr) (A : Ad) (B : Ow) (s : Sh) (k : Nat) (page key : Str) (sort : Int) (u0 u4 u10 u11 u12 u13 u14 u15 u16 u17 u18 u19 : Option Dt), LwAt K S d m o A B s k → k ≤ 90 → page ∈ pqrs → key ∈ abc →
      (∀ δ' S' A' B' s', Sl δ' d m o → LwAt K S' d m o A' B' s' (k + 1) → D.nx δ' S') → t D [u0, some (.ref d), some (.ref m), some (.ref o), u4, some (.str page), some (.int sort), some (.str key), some (.bl (s.on page)), some (.bl (s.mine page)), u10, u11, u12, u13, u14, u15, u16, u17, u18, u19] S := by
  obtain ⟨m_Shelf_open_page, m_Shelf_close_page, m_Shelf_begin, m_Shelf_set_row, m_Shelf_commit, m_Shelf_roll_back, m_Shelf_told, c__law_roll, c__law_kept, c__law_reads, ⟨fdT, FT⟩, TB, hne⟩ := V
  have hTu := hTu_of hne
  obtain ⟨oc, od, dV, kV, doc, pm, an, cdv, ct, osl, efd, lkT, hcdT, _, _⟩ := id FT.ex
  have bT : Binds K fdT ["what"] [] := FT.bindsN fun _ _ _ _ _ _ us hl => match us, hl with | [_], _ => rfl
  subst efd
  refine ⟨_, (dss_cons (ds_set (i := 13) sc_law.nd rfl (Or.inl rfl) (de_told (T := tb K) (k := 10) rfl (by rfl) T.g__law_told FT.kp lkT hcdT bT sc_law_told rfl (Or.inl rfl) rfl T.g_StoreError T.e_StoreError_StoreError TB rfl List.mem_cons_self hTu (hr.mono (by decide)) (lamS_by (sc := defScope s_law) (by decide +kernel)) rfl (fun _ _ _ _ _ => rfl) (fun e' A outer s H E f c' hr => (de_meth (nm := nm_Shelf) rfl m_Shelf_commit (by decide +kernel) dfl_nil hr (by decide) paLam (dv (pv 2)) (da_cons (dv (pv 5)) da_nil)))))
  (dss_one (ds_if (dt_cmp (od_ne rfl (hU_of hr)) (dv (pv 13)) (de_if (PW.pt (dt_and (de_tru rfl (dv (pv 8))) (pw_and1 (de_tru rfl (dv (pv 9)))))) (de_call rfl c__law_kept dfl_nil hr (by decide) rfl paX (da_cons (dv (pv 3)) (da_cons (dv (pv 5)) da_nil))) de_str)) (dss_one (ds_ret de_bl)) dss_nil))), fun D S d m o A B s k page key sort u0 u4 u10 u11 u12 u13 u14 u15 u16 u17 u18 u19 lw hk hp hkey nx => ?_⟩
  obtain ⟨ok, l4, l3, lc3⟩ := lw.ok (by omega)
  obtain ⟨rws, ch, pages⟩ := s
  have ins := lw.sh.ins
  have own_ : S o = some (.dic (rec3 (.ref B.r) (chO B ch) (.ref B.t))) := lw.ow.own
  have told_ : S B.t = some (.dic (encD toldD pages)) := lw.ow.told
  have l4 : pages.length ≤ 4 := l4
  have ndk : (pages.map (·.1)).Nodup := lw.sh.ndk
  walk_at "go"
  refine ⟨lw.tx, ?_⟩
  walk_at "go"
  refine ⟨m, A, _, page, rfl, lw.sh, lw.tx, by omega, by have : rws.length ≤ 3 := l3; omega, ok.lw, ?_⟩
  generalize hon : Sh.on ⟨rws, ch, pages⟩ page = on
  generalize hmi : Sh.mine ⟨rws, ch, pages⟩ page = mi
  cases on with
  | false =>
    refine ⟨rfl, ?_⟩
    walk_at "go"
    exact nx _ _ A B _ ⟨_, _, _, _, _, _, _, _, _, _, _, _, _, _, _, _, _, rfl⟩ (lw.mid.lw (lw.sm.mono (by omega)))
  | true =>
    cases mi with
    | false =>
      refine ⟨rfl, ?_⟩
      walk_at "go"
      exact nx _ _ A B _ ⟨_, _, _, _, _, _, _, _, _, _, _, _, _, _, _, _, _, rfl⟩ (lw.mid.lw (lw.sm.mono (by omega)))
    | true =>
      cases ch with
      | none => cases hmi
      | some c =>
        obtain ⟨x, l⟩ := c
        have hl3 : l.length ≤ 3 := lc3 x l rfl
        refine ⟨x, l, rfl, by omega, ?_⟩
        refine ift (p := 500 < lenSum (afterOf rws l)) (fun h2 => ?_) (fun h2 => ?_)
        · intro A' S' sh' f' n'
          have mid := lw.mid.shelf sh' f' n'
          walk_at "go"
          refine ⟨o, B, _, page, x, l, rfl, mid.ow, ok, rfl, ?_⟩
          rw [show decide (500 < lenSum (afterOf (Sh.rows ⟨rws, some (x, l), pages⟩) l)) = true from decide_eq_true h2]
          intro B' S2 w2 f2 n2
          have mid2 := mid.own w2 f2 n2
          walk_at "go"
          exact nx _ _ A' B' _ ⟨_, _, _, _, _, _, _, _, _, _, _, _, _, _, _, _, _, rfl⟩ (mid2.lw ⟨fun e he => ⟨(lw.sm.pg e he).1, Nat.le_succ_of_le (lw.sm.pg e he).2⟩, lw.sm.rk, fun p l z => (by cases z), fun p l z => (by cases z)⟩)
        · intro ks perm srt A' S' sh' f' n'
          have mid := lw.mid.shelf sh' f' n'
          walk_at "go"
          refine ⟨o, B, _, page, x, l, rfl, mid.ow, ok, rfl, ?_⟩
          rw [show decide (500 < lenSum (afterOf (Sh.rows ⟨rws, some (x, l), pages⟩) l)) = false from decide_eq_false h2]
          refine ⟨ks, perm, srt, ?_⟩
          intro B' S2 w2 f2 n2
          have mid2 := mid.own w2 f2 n2
          walk_at "go"
          refine nx _ _ A' B' _ ⟨_, _, _, _, _, _, _, _, _, _, _, _, _, _, _, _, _, rfl⟩ (mid2.lw ⟨fun e he => ?_, fun e he => ?_, fun p l z => (by cases z), fun p l z => (by cases z)⟩)
          · obtain ⟨e0, he0, rfl⟩ := List.mem_map.mp he
            by_cases h : e0.1 = page ∨ rowsOf rws (afterOf rws l) ks = []
            · rw [if_pos h]
              exact ⟨(lw.sm.pg e0 he0).1, Nat.le_succ_of_le (lw.sm.pg e0 he0).2⟩
            · rw [if_neg h]
              refine ⟨(lw.sm.pg e0 he0).1, ?_⟩
              have := (lw.sm.pg e0 he0).2
              rw [List.length_append]
              exact Nat.succ_le_succ this
          · rcases after_keys he with h | h
            · obtain ⟨e0, he0, h⟩ := List.mem_map.mp h
              rw [← h]
              exact lw.sm.rk e0 he0
            · obtain ⟨e0, he0, h⟩ := List.mem_map.mp h
              rw [← h]
              exact lw.sm.ck x l rfl e0 he0
theorem bl_set (T : Tx K mg) {f c0 : Addr} {A0 : Around} {outer : List Env} {s0 : Shared} {HE : Hp} {E : XK} {e : DX} (V : Env17 P w K mg base c0) (hr : Room 14 (A0.deeper (envOfC "law" (defScope s_law) s0.heap.objs.size f (.ref c0)))) :
    ∃ t, PSs (lcx P w K mg base f (.ref c0) A0 outer s0 HE E) bd_set (tDS K E e t) ∧ ∀ (D : DEnds) (S : Store) (d m o : Addr) (A : Ad) (B : Ow) (s : Sh) (k : Nat) (page key : Str) (sort : Int) (u0 u4 u10 u11 u12 u13 u14 u15 u16 u17 u18 u19 : Option Dt), LwAt K S d m o A B s k → k ≤ 90 → page ∈ pqrs → key ∈ abc →
      (∀ δ' S' A' B' s', Sl δ' d m o → LwAt K S' d m o A' B' s' (k + 1) → D.nx δ' S') → t D [u0, some (.ref d), some (.ref m), some (.ref o), u4, some (.str page), some (.int sort), some (.str key), some (.bl (s.on page)), some (.bl (s.mine page)), u10, u11, u12, u13, u14, u15, u16, u17, u18, u19] S := by
  obtain ⟨m_Shelf_open_page, m_Shelf_close_page, m_Shelf_begin, m_Shelf_set_row, m_Shelf_commit, m_Shelf_roll_back, m_Shelf_told, c__law_roll, c__law_kept, c__law_reads, ⟨fdT, FT⟩, TB, hne⟩ := V
  have hTu := hTu_of hne
  obtain ⟨oc, od, dV, kV, doc, pm, an, cdv, ct, osl, efd, lkT, hcdT, _, _⟩ := id FT.ex
  have bT : Binds K fdT ["what"] [] := FT.bindsN fun _ _ _ _ _ _ us hl => match us, hl with | [_], _ => rfl
  subst efd
  refine ⟨_, (dss_cons (ds_set (i := 11) sc_law.nd rfl (Or.inr rfl) (de_ix rfl (de_lst (da_cons de_non (da_cons de_str (da_cons (de_op od_mul de_str (de_call rfl c__law_roll dfl_nil hr (by decide) rfl paX (da_cons (dv (pv 1)) (da_cons de_int da_nil)))) (da_cons de_str da_nil))))) (de_call rfl c__law_roll dfl_nil hr (by decide) rfl paX (da_cons (dv (pv 1)) (da_cons de_int da_nil)))))
  (dss_cons (ds_if (dt_cmp (od_ne rfl (hU_of hr)) (de_cmp (od_eq rfl (hU_of hr)) (de_told (T := tb K) (k := 10) rfl (by rfl) T.g__law_told FT.kp lkT hcdT bT sc_law_told rfl (Or.inl rfl) rfl T.g_StoreError T.e_StoreError_StoreError TB rfl List.mem_cons_self hTu (hr.mono (by decide)) (lamS_by (sc := defScope s_law) (by decide +kernel)) rfl (fun _ _ _ _ _ => rfl) (fun e' A outer s H E f c' hr => (de_meth (nm := nm_Shelf) rfl m_Shelf_set_row (by decide +kernel) dfl_nil hr (by decide) paLam (dv (pv 2)) (da_cons (dv (pv 5)) (da_cons (dv (pv 7)) (da_cons (dv (pv 11)) da_nil)))))) de_str) (de_not rfl (de_and rfl (dv (pv 8)) (pe_one (dv (pv 9)))))) (dss_one (ds_ret de_bl)) dss_nil)
  (dss_one (ds_if (PW.pt (dt_and (de_tru rfl (dv (pv 8))) (pw_and1 (de_tru rfl (dv (pv 9)))))) (dss_cons (ds_set (i := 12) sc_law.nd rfl (Or.inl rfl) (de_ixC (n := 1) rfl (de_dget (hu_of hr) (dv (pv 3)) de_str (fun _ _ => rfl))))
  (dss_one (ds_asg (dv (pv 11)) (dg_subD (hu_of hr) (dv (pv 12)) (dv (pv 7)))))) dss_nil)))), fun D S d m o A B s k page key sort u0 u4 u10 u11 u12 u13 u14 u15 u16 u17 u18 u19 lw hk hp hkey nx => ?_⟩
  obtain ⟨ok, l4, l3, lc3⟩ := lw.ok (by omega)
  obtain ⟨rws, ch, pages⟩ := s
  have ins := lw.sh.ins
  have own_ : S o = some (.dic (rec3 (.ref B.r) (chO B ch) (.ref B.t))) := lw.ow.own
  have told_ : S B.t = some (.dic (encD toldD pages)) := lw.ow.told
  have l4 : pages.length ≤ 4 := l4
  have ndk : (pages.map (·.1)).Nodup := lw.sh.ndk
  have shrt : ∀ o : Option Str, rowOk (.str key) (oS o) = some (key, o) := fun o => by
    have hk : ¬ (key = "" ∨ key.length > 50) := by
      simp only [List.mem_cons, List.not_mem_nil, or_false] at hkey
      rcases hkey with rfl | rfl | rfl <;> decide +kernel
    cases o with
    | none => exact if_neg hk
    | some z => exact if_neg hk
  have pln : ∀ o : Option Str, plain (oS o) = true := fun o => by cases o <;> rfl
  obtain ⟨x0, y0, z0, hd⟩ := lw.dice
  walk_at "go"
  refine ⟨d, x0, y0, z0, 300, rfl, hd, ⟨by decide, by decide⟩, fun r x1 y1 z1 r0 r1 => ?_⟩
  walk_at "go"
  have yl : Str.length "y" = 1 := by decide +kernel
  refine ⟨⟨r0, by omega, szl (by rw [yl]; omega)⟩, ?_⟩
  walk_at "go"
  refine ⟨d, x1, y1, z1, 4, rfl, sput_same, ⟨by decide, by decide⟩, fun r2 x2 y2 z2 q0 q1 => ?_⟩
  rw [sput_sput]
  have mid0 := lw.mid.roll x2 y2 z2
  generalize sput S d (.lst [.int x2, .int y2, .int z2]) = S0 at mid0
  have pick : ∃ ot : Option Str, atI [Dt.non, .str "x", .str (repS "y" r.toNat), .str "z"] r2 = some (oS ot) := by
    have : r2 = 0 ∨ r2 = 1 ∨ r2 = 2 ∨ r2 = 3 := by omega
    rcases this with rfl | rfl | rfl | rfl
    · exact ⟨none, rfl⟩
    · exact ⟨some "x", rfl⟩
    · exact ⟨some (repS "y" r.toNat), rfl⟩
    · exact ⟨some "z", rfl⟩
  obtain ⟨ot, pick⟩ := pick
  walk_at "go"
  refine ⟨oS ot, pick, ?_⟩
  have ins := mid0.sh.ins
  walk_at "go"
  refine ⟨mid0.tx, ?_⟩
  walk_at "go"
  refine ⟨m, A, _, page, .str key, oS ot, rfl, rfl, (fun z => by cases z), pln ot, mid0.sh, fun p l hc => by have := lc3 p l hc; omega, ?_⟩
  rw [shrt ot]
  generalize hon : Sh.on ⟨rws, ch, pages⟩ page = on
  generalize hmi : Sh.mine ⟨rws, ch, pages⟩ page = mi
  cases on with
  | false =>
    refine ⟨rfl, ?_⟩
    walk_at "go"
    exact nx _ _ A B _ ⟨_, _, _, _, _, _, _, _, _, _, _, _, _, _, _, _, _, rfl⟩ (mid0.lw (lw.sm.mono (by omega)))
  | true =>
    cases mi with
    | false =>
      refine ⟨rfl, ?_⟩
      walk_at "go"
      exact nx _ _ A B _ ⟨_, _, _, _, _, _, _, _, _, _, _, _, _, _, _, _, _, rfl⟩ (mid0.lw (lw.sm.mono (by omega)))
    | true =>
      cases ch with
      | none => cases hmi
      | some c =>
        obtain ⟨x, l⟩ := c
        intro A' S' sh' f' n'
        have mid := mid0.shelf sh' f' n'
        have own1 : S' o = some (.dic (rec3 (.ref B.r) (.tup [.str x, .ref B.c]) (.ref B.t))) := mid.ow.own
        have chg1 : S' B.c = some (.dic (encD oS l)) := mid.ow.chg x l rfl
        have hl3 : l.length ≤ 3 := lc3 x l rfl
        walk_at "go"
        rw [encD_put]
        exact nx _ _ A' B _ ⟨_, _, _, _, _, _, _, _, _, _, _, _, _, _, _, _, _, rfl⟩ ((mid.setc rfl key ot).lw ⟨fun e he => ⟨(lw.sm.pg e he).1, Nat.le_succ_of_le (lw.sm.pg e he).2⟩, lw.sm.rk, fun p l' z => (by
          cases z
          intro e he
          rcases aPut_mem he with rfl | ⟨he, _⟩
          · exact hkey
          · exact lw.sm.ck x l rfl e he), fun p l' z => (by
          cases z
          exact lw.sm.co x l rfl)⟩)
end
end K17

open PySem PySem.Spec PyProof.Rows L2 Pr Dn LamX

namespace K17
section
variable {P : Program} {w : World} {K : PySem.W.Frag} {mg : Str → Option Value} {base : Heap}
local macro_rules | `(tactic| walk_at "q") => `(tactic| first
  | ((with_reducible show ∃ d, kGet (_ :: _) _ = some d ∧ _); refine ⟨_, by first | exact og1 | exact og2 | exact og3, ?_⟩))
theorem bl_chk (T : Tx K mg) {f c0 : Addr} {A0 : Around} {outer : List Env} {s0 : Shared} {HE : Hp} {E : XK} {e : DX} (V : Env17 P w K mg base c0) (hr : Room 14 (A0.deeper (envOfC "law" (defScope s_law) s0.heap.objs.size f (.ref c0)))) :
    ∃ t, PSs (lcx P w K mg base f (.ref c0) A0 outer s0 HE E) bd_chk (tDS K E e t) ∧ ∀ (D : DEnds) (S : Store) (d m o : Addr) (A : Ad) (B : Ow) (s : Sh) (k : Nat) (δ : DS), Sl δ d m o → LwAt K S d m o A B s k → k ≤ 90 →
      (∀ δ' S', Sl δ' d m o → LwAt K S' d m o A B s k → D.nx δ' S') → t D δ S := by
  obtain ⟨m_Shelf_open_page, m_Shelf_close_page, m_Shelf_begin, m_Shelf_set_row, m_Shelf_commit, m_Shelf_roll_back, m_Shelf_told, c__law_roll, c__law_kept, c__law_reads, ⟨fdT, FT⟩, TB, hne⟩ := V
  refine ⟨_, (dss_one (ds_if (PW.pt (dt_or (dt_not (de_tru rfl (de_call rfl c__law_reads dfl_nil hr (by decide) rfl paX (da_cons (dv (pv 2)) (da_cons (dv (pv 3)) da_nil))))) (dt_or (dt_cmp (od_neDic (hV_of hr)) (de_fld rfl (fd_Shelf_rows T) (dv (pv 2))) (de_dget (hu_of hr) (dv (pv 3)) de_str (fun _ _ => rfl))) (pw_or1 (dt_cmp (od_neV rfl (hU_of hr)) (de_fld rfl (fd_Shelf_listening T) (dv (pv 2))) (de_callTy (cd_keysF rfl) (by rfl) T.b_list (by decide +kernel) (da_cons (de_dget (hu_of hr) (dv (pv 3)) de_str (fun _ _ => rfl)) da_nil))))))) (dss_one (ds_ret de_bl)) dss_nil)), fun D S d m o A B s k δ sl lw hk nx => ?_⟩
  obtain ⟨ok, l4, l3, lc3⟩ := lw.ok (by omega)
  obtain ⟨u0, u4, u5, u6, u7, u8, u9, u10, u11, u12, u13, u14, u15, u16, u17, u18, u19, rfl⟩ := sl
  walk_at "go"
  refine ⟨m, A, s, o, B, rfl, lw.sh, lw.ow, ok, lw.dis, fun S' f' => ?_⟩
  have mid := lw.mid.gar f'
  have ins := mid.sh.ins
  have rows := mid.sh.rows
  have lst := mid.sh.lst
  have own_ := mid.ow.own
  have orows := mid.ow.rows
  have otold := mid.ow.told
  walk_at "go"
  refine ⟨⟨rfl, fun p hp => ?_⟩, ?_⟩
  · obtain ⟨e, he, rfl⟩ := List.mem_map.mp hp
    exact ⟨get_enc mid.sh.ndr he, rfl⟩
  walk_at "go"
  rw [keys_encD, keys_map]
  refine ((tells_enc (α := Str)).lst).neS (a := s.pages.map (·.1)) (by decide) ?_
  walk_at "go"
  exact nx _ _ ⟨_, _, _, _, _, _, _, _, _, _, _, _, _, _, _, _, _, rfl⟩ (mid.lw lw.sm)
theorem bl_step (T : Tx K mg) {f c0 : Addr} {A0 : Around} {outer : List Env} {s0 : Shared} {HE : Hp} {E : XK} {e : DX} (V : Env17 P w K mg base c0) (hr : Room 14 (A0.deeper (envOfC "law" (defScope s_law) s0.heap.objs.size f (.ref c0)))) :
    ∃ t, PSs (lcx P w K mg base f (.ref c0) A0 outer s0 HE E) bd_step (tDS K E e t) ∧ ∀ (D : DEnds) (S : Store) (d m o : Addr) (A : Ad) (B : Ow) (s : Sh) (k : Nat) (δ : DS), Sl δ d m o → LwAt K S d m o A B s k → k ≤ 80 →
      (∀ δ' S' A' B' s', Sl δ' d m o → LwAt K S' d m o A' B' s' (k + 1) → D.nx δ' S') → t D δ S := by
  obtain ⟨t1, p_open, h_open⟩ := bl_open (f := f) (A0 := A0) (outer := outer) (s0 := s0) (HE := HE) (E := E) (e := e) T V hr
  obtain ⟨t2, p_close, h_close⟩ := bl_close (f := f) (A0 := A0) (outer := outer) (s0 := s0) (HE := HE) (E := E) (e := e) T V hr
  obtain ⟨t3, p_begin, h_begin⟩ := bl_begin (f := f) (A0 := A0) (outer := outer) (s0 := s0) (HE := HE) (E := E) (e := e) T V hr
  obtain ⟨t4, p_set, h_set⟩ := bl_set (f := f) (A0 := A0) (outer := outer) (s0 := s0) (HE := HE) (E := E) (e := e) T V hr
  obtain ⟨t5, p_commit, h_commit⟩ := bl_commit (f := f) (A0 := A0) (outer := outer) (s0 := s0) (HE := HE) (E := E) (e := e) T V hr
  obtain ⟨t6, p_roll, h_roll⟩ := bl_roll (f := f) (A0 := A0) (outer := outer) (s0 := s0) (HE := HE) (E := E) (e := e) T V hr
  obtain ⟨t7, p_told, h_told⟩ := bl_told (f := f) (A0 := A0) (outer := outer) (s0 := s0) (HE := HE) (E := E) (e := e) T V hr
  obtain ⟨t8, p_chk, h_chk⟩ := bl_chk (f := f) (A0 := A0) (outer := outer) (s0 := s0) (HE := HE) (E := E) (e := e) T V hr
  obtain ⟨m_Shelf_open_page, m_Shelf_close_page, m_Shelf_begin, m_Shelf_set_row, m_Shelf_commit, m_Shelf_roll_back, m_Shelf_told, c__law_roll, c__law_kept, c__law_reads, ⟨fdT, FT⟩, TB, hne⟩ := V
  refine ⟨_, (dss_cons (ds_asg (de_tup (da_cons (de_ix rfl (de_lst (da_cons de_str (da_cons de_str (da_cons de_str (da_cons de_str da_nil))))) (de_call rfl c__law_roll dfl_nil hr (by decide) rfl paX (da_cons (dv (pv 1)) (da_cons de_int da_nil)))) (da_cons (de_call rfl c__law_roll dfl_nil hr (by decide) rfl paX (da_cons (dv (pv 1)) (da_cons de_int da_nil))) (da_cons (de_ix rfl (de_lst (da_cons de_str (da_cons de_str (da_cons de_str da_nil)))) (de_call rfl c__law_roll dfl_nil hr (by decide) rfl paX (da_cons (dv (pv 1)) (da_cons de_int da_nil)))) da_nil)))) (dg_tup (n := 3) rfl rfl (dgs_cons (dg_name (i := 5) sc_law.nd rfl (Or.inr rfl)) (dgs_cons (dg_name (i := 6) sc_law.nd rfl (Or.inl rfl)) (dgs_cons (dg_name (i := 7) sc_law.nd rfl (Or.inr rfl)) dgs_nil)))))
  (dss_cons (ds_par (i := 8) (j := 9) (by rfl) sc_law.nd rfl rfl (by decide) rfl rfl (da_cons (de_din (hu_of hr) (dv (pv 5)) (de_dget (hu_of hr) (dv (pv 3)) de_str (fun _ _ => rfl))) (da_cons (de_and rfl (de_cmp od_isNot (de_dget (hu_of hr) (dv (pv 3)) de_str (fun _ _ => rfl)) de_non) (pe_one (de_cmp (od_eq rfl (hU_of hr)) (de_ixC (n := 0) rfl (de_dget (hu_of hr) (dv (pv 3)) de_str (fun _ _ => rfl))) (dv (pv 5))))) da_nil)) (by rfl))
  (dss_cons (ds_if (dt_cmp od_lt (dv (pv 6)) de_int) p_open (dss_one (ds_if (PW.pt (dt_and (dt_cmp (od_eq rfl (hU_of hr)) (dv (pv 6)) de_int) (pw_and1 (dt_cmp (od_eq rfl (hU_of hr)) (de_call rfl c__law_roll dfl_nil hr (by decide) rfl paX (da_cons (dv (pv 1)) (da_cons de_int da_nil))) de_int)))) p_close (dss_one (ds_if (dt_cmp od_lt (dv (pv 6)) de_int) p_begin (dss_one (ds_if (dt_cmp od_lt (dv (pv 6)) de_int) p_set (dss_one (ds_if (dt_cmp od_lt (dv (pv 6)) de_int) p_commit (dss_one (ds_if (dt_cmp (od_eq rfl (hU_of hr)) (dv (pv 6)) de_int) p_roll p_told)))))))))))
  p_chk))), fun D S d m o A B s k δ sl lw hk nx => ?_⟩
  obtain ⟨ok, l4, l3, lc3⟩ := lw.ok (by omega)
  obtain ⟨u0, u4, u5, u6, u7, u8, u9, u10, u11, u12, u13, u14, u15, u16, u17, u18, u19, rfl⟩ := sl
  have fin : ∀ δ' S' A' B' s', Sl δ' d m o → LwAt K S' d m o A' B' s' (k + 1) → t8 D δ' S' := fun δ' S' A' B' s' sl' lw' => h_chk D S' d m o A' B' s' (k + 1) δ' sl' lw' (by omega) fun δ'' S'' sl'' lw'' => nx δ'' S'' A' B' s' sl'' lw''
  obtain ⟨x0, y0, z0, hd⟩ := lw.dice
  walk_at "go"
  refine ⟨d, x0, y0, z0, 4, rfl, hd, ⟨by decide, by decide⟩, fun r x1 y1 z1 r0 r1 => ?_⟩
  obtain ⟨page, hpage, hp⟩ : ∃ page : Str, atI [Dt.str "p", .str "q", .str "r", .str "s"] r = some (.str page) ∧ page ∈ pqrs := by
    have : r = 0 ∨ r = 1 ∨ r = 2 ∨ r = 3 := by omega
    rcases this with rfl | rfl | rfl | rfl
    · exact ⟨"p", rfl, by simp⟩
    · exact ⟨"q", rfl, by simp⟩
    · exact ⟨"r", rfl, by simp⟩
    · exact ⟨"s", rfl, by simp⟩
  walk_at "go"
  refine ⟨_, hpage, ?_⟩
  walk_at "go"
  refine ⟨d, x1, y1, z1, 12, rfl, sput_same, ⟨by decide, by decide⟩, fun sort x2 y2 z2 q0 q1 => ?_⟩
  rw [sput_sput]
  walk_at "go"
  refine ⟨d, x2, y2, z2, 3, rfl, sput_same, ⟨by decide, by decide⟩, fun r3 x3 y3 z3 p0 p1 => ?_⟩
  rw [sput_sput]
  obtain ⟨key, hkey, hk2⟩ : ∃ key : Str, atI [Dt.str "a", .str "b", .str "c"] r3 = some (.str key) ∧ key ∈ abc := by
    have : r3 = 0 ∨ r3 = 1 ∨ r3 = 2 := by omega
    rcases this with rfl | rfl | rfl
    · exact ⟨"a", rfl, by simp⟩
    · exact ⟨"b", rfl, by simp⟩
    · exact ⟨"c", rfl, by simp⟩
  walk_at "go"
  refine ⟨_, hkey, ?_⟩
  have lw3 : LwAt K (sput S d (.lst [.int x3, .int y3, .int z3])) d m o A B s k := (lw.mid.roll x3 y3 z3).lw lw.sm
  generalize sput S d (.lst [.int x3, .int y3, .int z3]) = S3 at lw3
  obtain ⟨rws, ch, pages⟩ := s
  have told_ : S3 B.t = some (.dic (encD toldD pages)) := lw3.ow.told
  have kk := (show k ≤ 90 from by omega)
  have disp : ∀ on mi : Bool, on = Sh.on ⟨rws, ch, pages⟩ page → mi = Sh.mine ⟨rws, ch, pages⟩ page →
      Ift (decide (sort < 2)) (t1 { D with nx := t8 D } [u0, some (.ref d), some (.ref m), some (.ref o), u4, some (.str page), some (.int sort), some (.str key), some (.bl on), some (.bl mi), u10, u11, u12, u13, u14, u15, u16, u17, u18, u19] S3)
        (dIf (dTAnd (dTst (dOp dEq (dVar 6) (dC (Dt.int 2)))) (dTst (dOp dEq (dCall Dn.cRoll [] e (dCons (dVar 1) (dCons (dC (Dt.int 3)) dNil))) (dC (Dt.int 0))))) t2
          (dIf (dTst (dOp rLt (dVar 6) (dC (Dt.int 5)))) t3 (dIf (dTst (dOp rLt (dVar 6) (dC (Dt.int 8)))) t4 (dIf (dTst (dOp rLt (dVar 6) (dC (Dt.int 10)))) t5 (dIf (dTst (dOp dEq (dVar 6) (dC (Dt.int 10)))) t6 t7)))) { D with nx := t8 D }
          [u0, some (.ref d), some (.ref m), some (.ref o), u4, some (.str page), some (.int sort), some (.str key), some (.bl on), some (.bl mi), u10, u11, u12, u13, u14, u15, u16, u17, u18, u19] S3) := by
    rintro _ _ rfl rfl
    refine ift (fun h => ?_) (fun h => ?_)
    · exact h_open _ S3 d m o A B ⟨rws, ch, pages⟩ k page key sort _ _ _ _ _ _ _ _ _ _ _ _ lw3 kk hp fin
    walk_at "go"
    have rest : ∀ x y z : Int, ∀ S4, LwAt K S4 d m o A B ⟨rws, ch, pages⟩ k → (dIf (dTst (dOp rLt (dVar 6) (dC (Dt.int 5)))) t3 (dIf (dTst (dOp rLt (dVar 6) (dC (Dt.int 8)))) t4 (dIf (dTst (dOp rLt (dVar 6) (dC (Dt.int 10)))) t5 (dIf (dTst (dOp dEq (dVar 6) (dC (Dt.int 10)))) t6 t7)))) { D with nx := t8 D }
          [u0, some (.ref d), some (.ref m), some (.ref o), u4, some (.str page), some (.int sort), some (.str key), some (.bl (Sh.on ⟨rws, ch, pages⟩ page)), some (.bl (Sh.mine ⟨rws, ch, pages⟩ page)), u10, u11, u12, u13, u14, u15, u16, u17, u18, u19] S4 := fun _ _ _ S4 lw4 => by
      walk_at "go"
      refine ift (fun h => ?_) (fun h => ?_)
      · exact h_begin _ S4 d m o A B ⟨rws, ch, pages⟩ k page key sort _ _ _ _ _ _ _ _ _ _ _ _ lw4 kk hp hk2 fin
      walk_at "go"
      refine ift (fun h => ?_) (fun h => ?_)
      · exact h_set _ S4 d m o A B ⟨rws, ch, pages⟩ k page key sort _ _ _ _ _ _ _ _ _ _ _ _ lw4 kk hp hk2 fin
      walk_at "go"
      refine ift (fun h => ?_) (fun h => ?_)
      · exact h_commit _ S4 d m o A B ⟨rws, ch, pages⟩ k page key sort _ _ _ _ _ _ _ _ _ _ _ _ lw4 kk hp hk2 fin
      walk_at "go"
      refine ift (fun h => ?_) (fun h => ?_)
      · exact h_roll _ S4 d m o A B ⟨rws, ch, pages⟩ k page key sort _ _ _ _ _ _ _ _ _ _ _ _ lw4 kk hp hk2 fin
      · exact h_told _ S4 d m o A B ⟨rws, ch, pages⟩ k page key sort _ _ _ _ _ _ _ _ _ _ _ _ lw4 kk hp hk2 fin
    obtain ⟨x4, y4, z4, hd4⟩ := lw3.dice
    refine ift (fun h => ?_) (fun h => ?_)
    · walk_at "go"
      refine ⟨d, x4, y4, z4, 3, rfl, hd4, ⟨by decide, by decide⟩, fun r5 x5 y5 z5 a0 a1 => ?_⟩
      have lw5 : LwAt K (sput S3 d (.lst [.int x5, .int y5, .int z5])) d m o A B ⟨rws, ch, pages⟩ k := (lw3.mid.roll x5 y5 z5).lw lw.sm
      walk_at "go"
      refine ift (fun h => ?_) (fun h => ?_)
      · exact h_close _ _ d m o A B ⟨rws, ch, pages⟩ k page key sort _ _ _ _ _ _ _ _ _ _ _ _ lw5 kk hp hk2 fin
      · exact rest x5 y5 z5 _ lw5
    · exact rest 0 0 0 _ lw3
  cases ch with
  | none =>
    have own_ : S3 o = some (.dic (rec3 (.ref B.r) .non (.ref B.t))) := lw3.ow.own
    walk_at "go"
    exact disp _ _ has_enc rfl
  | some c =>
    obtain ⟨x, l⟩ := c
    have own_ : S3 o = some (.dic (rec3 (.ref B.r) (.tup [.str x, .ref B.c]) (.ref B.t))) := lw3.ow.own
    walk_at "go"
    exact disp _ _ has_enc rfl
end
end K17

open PySem PySem.Spec PyProof.Rows L2 Pr Dn LamX

namespace K17
def cShelf (K : PySem.W.Frag) : DSp := fun ds S q _ => ∃ m, ds = [.ref m] ∧ S m = some (.ins (He.ga K "Shelf") nm_Shelf []) ∧
  ∀ A S', ShAt K S' m A ⟨[], none, []⟩ → Frm [m] S S' → (∀ b ∈ own m A ⟨[], none, []⟩, b = m ∨ S b = none) → q .non S'
section
variable {P : Program} {w : World} {K : PySem.W.Frag} {mg : Str → Option Value} {base : Heap}
theorem ok_Shelf (T : Tx K mg) {f : Addr} {fd : FuncData} (F : FunD K "__init__" "Shelf.__init__" (defArgs s_Shelf_init) (defBody s_Shelf_init) (defScope s_Shelf_init) [] [] f fd) : FnOk P w K mg base (L2.CX P w) 1 f fd ["self"] (spD K (cShelf K)) := by
  refine dfn 1 F sc_Shelf_init (fun ds S q e h => ?_) rfl (fun cdv A outer s H E e hr => ⟨_, (dss_cons (ds_fld rfl (fd_Shelf_rows T) (dv (pv 0)) de_dnewO)
  (dss_cons (ds_fld rfl (fd_Shelf_change T) (dv (pv 0)) de_non)
  (dss_cons (ds_fld rfl (fd_Shelf_listening T) (dv (pv 0)) (de_lstO da_nil))
  (dss_one (ds_fld rfl (fd_Shelf_waiting T) (dv (pv 0)) de_dnewO))))), fun ds S q h => ?_⟩)
  · obtain ⟨_, rfl, _⟩ := h
    rfl
  · obtain ⟨m, rfl, hm, h⟩ := h
    walk_at "go"
    intro p np
    have n1 := (ne_free hm np)
    walk_at "go"
    intro p2 np2
    obtain ⟨n2, np2⟩ := sput_free np2
    obtain ⟨_, np2⟩ := sput_free np2
    obtain ⟨n3, np2⟩ := sput_free np2
    walk_at "go"
    intro p3 np3
    obtain ⟨n4, np3⟩ := sput_free np3
    obtain ⟨n5, np3⟩ := sput_free np3
    obtain ⟨_, np3⟩ := sput_free np3
    obtain ⟨_, np3⟩ := sput_free np3
    obtain ⟨n6, np3⟩ := sput_free np3
    walk_at "go"
    refine h ⟨p, p2, p3, p, []⟩ _ ⟨by walk_at "su", by walk_at "su", by walk_at "su", by walk_at "su", (fun _ _ z => by cases z), rfl, (fun _ z => by cases z), by simp, by simp, (fun _ _ z => by cases z), by simp, Ne.symm n6, (fun _ _ z => by cases z)⟩ ?_ ?_
    · exact ((((((Frm.refl.own np).mut List.mem_cons_self).mut List.mem_cons_self).own np2).mut List.mem_cons_self).own np3).mut List.mem_cons_self
    · intro b hb
      simp only [own, chA, List.mem_cons, List.map_nil, List.append_nil, List.not_mem_nil, or_false] at hb
      rcases hb with rfl | rfl | rfl | rfl
      · exact .inl rfl
      · exact .inr np
      · exact .inr np2
      · exact .inr np3
theorem bl_dice (T : Tx K mg) {f c0 : Addr} {A0 : Around} {outer : List Env} {s0 : Shared} {HE : Hp} {E : XK} {e : DX} (V : Env17 P w K mg base c0) (k_Shelf : MakX P w K mg base 1 "Shelf" (He.ga K "Shelf") (spD K (cShelf K)) []) (hr : Room 14 (A0.deeper (envOfC "law" (defScope s_law) s0.heap.objs.size f (.ref c0)))) :
    ∃ t, PSs (lcx P w K mg base f (.ref c0) A0 outer s0 HE E) bd_dice (tDS K E e t) ∧ ∀ (D : DEnds) (S : Store) (d : Addr) (u0 u2 u3 u4 u5 u6 u7 u8 u9 u10 u11 u12 u13 u14 u15 u16 u17 u18 u19 : Option Dt), TabX (tb K) S → (∃ x n j : Int, S d = some (.lst [.int x, .int n, .int j])) →
      (∀ δ' S', (∃ m o, Sl δ' d m o) → TabX (tb K) S' → D.nx δ' S') → t D [u0, some (.ref d), u2, u3, u4, u5, u6, u7, u8, u9, u10, u11, u12, u13, u14, u15, u16, u17, u18, u19] S := by
  obtain ⟨t1, p_step, h_step⟩ := bl_step (f := f) (A0 := A0) (outer := outer) (s0 := s0) (HE := HE) (E := E) (e := e) T V hr
  obtain ⟨m_Shelf_open_page, m_Shelf_close_page, m_Shelf_begin, m_Shelf_set_row, m_Shelf_commit, m_Shelf_roll_back, m_Shelf_told, c__law_roll, c__law_kept, c__law_reads, ⟨fdT, FT⟩, TB, hne⟩ := V
  refine ⟨_, (dss_cons (ds_asg (de_tup (da_cons (de_make0 (nm := nm_Shelf) rfl k_Shelf dfl_nil hr (by decide) rfl paX) (da_cons (de_dispO (dps_cons de_str de_dnewO (dps_cons de_str de_non (dps_cons de_str de_dnewO dps_nil))) (by rfl) (by rfl) (fun z => by cases z) (by decide)) da_nil))) (dg_tup (n := 2) rfl rfl (dgs_cons (dg_name (i := 2) sc_law.nd rfl (Or.inr rfl)) (dgs_cons (dg_name (i := 3) sc_law.nd rfl (Or.inr rfl)) dgs_nil))))
  (dss_one (ds_for poX rfl (di_range1 (by rfl) T.b_range (da_cons (de_call rfl c__law_roll dfl_nil hr (by decide) rfl paX (da_cons (dv (pv 1)) (da_cons de_int da_nil))) da_nil)) (dg_name (i := 4) sc_law.nd rfl (Or.inl rfl)) p_step))), fun D S d u0 u2 u3 u4 u5 u6 u7 u8 u9 u10 u11 u12 u13 u14 u15 u16 u17 u18 u19 tx hd nx => ?_⟩
  obtain ⟨x0, y0, z0, hd⟩ := hd
  walk_at "go"
  intro m nm
  have nmd := ne_free hd nm
  refine ⟨m, rfl, sput_same, fun A S1 sh f1 n1 => ⟨rfl, ?_⟩⟩
  walk_at "go"
  intro p1 np1
  walk_at "go"
  intro p2 np2
  obtain ⟨n12, np2'⟩ := sput_free np2
  walk_at "go"
  intro p3 np3
  obtain ⟨n13, np3'⟩ := sput_free np3
  obtain ⟨n23, np3''⟩ := sput_free np3'
  walk_at "go"
  have e3 : kMerge [] [((Sum.inr "rows" : Key), Dt.ref p1), (Sum.inr "change", .non), (Sum.inr "told", .ref p2)] = rec3 (.ref p1) .non (.ref p2) := rfl
  rw [e3]
  have hd1 : S1 d = some (.lst [.int x0, .int y0, .int z0]) := f1.k _ _ ((sput_ne nmd).trans hd) (by simpa using nmd)
  have tx0 : TabX (tb K) (sput S m (.ins (He.ga K "Shelf") nm_Shelf [])) := tx.put (fun q z => by rw [nm] at z; cases z) (fun q z => by cases z)
  have tx1 : TabX (tb K) S1 := tx0.frm f1 fun b hb q z => by rw [List.mem_singleton.mp hb, sput_same] at z; cases z
  have mid0 : ∀ b ∈ own m A ⟨[], none, []⟩, ∃ c, S1 b = some c := fun b hb => (own_nt sh b hb).imp fun c h => h.1
  have f3 : Frm [] S1 (sput (sput (sput S1 p1 (.dic [])) p2 (.dic [])) p3 (.dic (rec3 (.ref p1) .non (.ref p2)))) := ((Frm.refl.own np1).own np2').own np3''
  have lw : LwAt K (sput (sput (sput S1 p1 (.dic [])) p2 (.dic [])) p3 (.dic (rec3 (.ref p1) .non (.ref p2)))) d m p3 A ⟨p1, p2, p1⟩ ⟨[], none, []⟩ 0 := by
    refine ⟨⟨x0, y0, z0, f3.k _ _ hd1 (by simp)⟩, sh.frm f3 (by simp), ⟨sput_same, (sput_ne (Ne.symm n23)).trans ((sput_ne (Ne.symm n12)).trans sput_same), (sput_ne (Ne.symm n13)).trans sput_same, (fun _ _ z => by cases z), ⟨n23, n13, Ne.symm n12⟩, (fun _ _ z => by cases z)⟩, fun b hb ho => ?_, fun ho => ?_, tx1.frm f3 (by simp), ⟨(fun e he => by cases he), (fun e he => by cases he), (fun _ _ z => by cases z), (fun _ _ z => by cases z)⟩⟩
    · obtain ⟨c, hc⟩ := mid0 b ho
      simp only [owA, chB, List.mem_cons, List.append_nil, List.not_mem_nil, or_false] at hb
      rcases hb with rfl | rfl | rfl
      · rw [np3''] at hc; cases hc
      · rw [np1] at hc; cases hc
      · rw [np2'] at hc; cases hc
    · rcases n1 d ho with z | z
      · exact nmd z
      · rw [sput_ne nmd, hd] at z; cases z
  generalize sput (sput (sput S1 p1 (.dic [])) p2 (.dic [])) p3 (.dic (rec3 (.ref p1) .non (.ref p2))) = S4 at lw
  obtain ⟨x4, y4, z4, hd4⟩ := lw.dice
  refine ⟨d, x4, y4, z4, 71, rfl, hd4, ⟨by decide, by decide⟩, fun r x5 y5 z5 r0 r1 => ?_⟩
  have lw5 : LwAt K (sput S4 d (.lst [.int x5, .int y5, .int z5])) d m p3 A ⟨p1, p2, p1⟩ ⟨[], none, []⟩ 0 := (lw.mid.roll x5 y5 z5).lw lw.sm
  walk_at "w"
  refine ⟨⟨by omega, by omega⟩, ?_⟩
  have len : (rangeD 0 r.toNat).length ≤ 71 := by
    unfold rangeD
    rw [List.length_map, List.length_range]
    omega
  refine ⟨fun i δ S => Sl δ d m p3 ∧ ∃ A' B' s', LwAt K S d m p3 A' B' s' i, ⟨⟨_, _, _, _, _, _, _, _, _, _, _, _, _, _, _, _, _, rfl⟩, A, _, _, lw5⟩, fun _ _ _ _ _ => trivial, fun i x δ S hi hI => ?_, fun δ S hI => ?_⟩
  · obtain ⟨⟨w0, w4, w5, w6, w7, w8, w9, w10, w11, w12, w13, w14, w15, w16, w17, w18, w19, rfl⟩, A', B', s', lw'⟩ := hI
    have il : i < (rangeD 0 r.toNat).length := (List.getElem?_eq_some_iff.mp hi).1
    walk_at "w"
    exact h_step _ S d m p3 A' B' s' i _ ⟨_, _, _, _, _, _, _, _, _, _, _, _, _, _, _, _, _, rfl⟩ lw' (by omega) fun δ' S' A'' B'' s'' sl lw'' => ⟨sl, A'', B'', s'', lw''⟩
  · obtain ⟨sl, A', B', s', lw'⟩ := hI
    exact nx δ S ⟨m, p3, sl⟩ lw'.tx
end
end K17

open PySem PySem.Spec PyProof.Rows L2 Pr Dn LamX NdefX

namespace K17
def bd_tail : List Stmt := (defBody s_law).drop 1
def lamE (i : Nat) : Expr := (listE (nth bd_tail 3)).getD i (.Name "" ⟨0, 0, 0, 0⟩)
theorem nscs : ([0, 1, 2, 3, 4, 5, 6].all fun i => nscB ["fresh"] [] ["fresh"] (laS (defScope s_law) (lamE i))) = true := by decide +kernel
theorem nsc (i : Nat) (hi : i ∈ [0, 1, 2, 3, 4, 5, 6] := by decide) : nscB ["fresh"] [] ["fresh"] (laS (defScope s_law) (lamE i)) = true := List.all_eq_true.mp nscs i hi
section
variable {P : Program} {w : World} {K : PySem.W.Frag} {mg : Str → Option Value} {base : Heap} {f c' : Addr} {q : Str} {cl : List (Str × Addr)}
abbrev laF (i : Nat) (q : Str) (cl : List (Str × Addr)) (c' : Addr) : NF := ⟨"<lambda>", q, laP (defArgs s_law) (lamE i), [], laS (defScope s_law) (lamE i), cl, c'⟩
abbrev sF : Sh := ⟨[], some ("p", []), [("p", [])]⟩
theorem lok0 (m_Shelf_set_row : MetX P w K mg base 3 (He.ga K "Shelf") "set_row" (spD K (cSet K)) []) : ∃ c : DLp, (∀ (f c' : Addr) (q : Str) (cl : List (Str × Addr)), LOk P w K mg base 5 f (laF 0 q cl c') (laB (lamE 0)) ["fresh"] (spLD K c)) ∧ ∀ S q e m A, ShAt K S m A sF → e (He.ga K "StoreError") S → c [some (.ref m)] S q e := by
  refine ⟨fun δ S q e => _, fun f c' q cl => lokD (k := 4) (nscope_by (nsc 0)) (fun _ _ => rfl) _ fun e A outer s H E hr =>
    (de_meth (nm := nm_Shelf) rfl m_Shelf_set_row (by decide +kernel) dfl_nil hr (by decide) paN (dv (pv 0)) (da_cons de_str (da_cons de_str (da_cons de_str da_nil)))), fun S q e m A sh he => ?_⟩
  · have ins := sh.ins
    walk_at "go"
    refine ⟨m, A, sF, "p", _, _, rfl, rfl, (fun z => by cases z), rfl, sh, (fun p l z => by cases z; exact Nat.zero_le _), ?_⟩
    refine ift_t (by decide +kernel) ?_
    rw [show rowOk (.str "") (.str "x") = none from by unfold rowOk; exact if_pos (Or.inl rfl)]
    exact he
theorem lok1 (m_Shelf_set_row : MetX P w K mg base 3 (He.ga K "Shelf") "set_row" (spD K (cSet K)) []) : ∃ c : DLp, (∀ (f c' : Addr) (q : Str) (cl : List (Str × Addr)), LOk P w K mg base 5 f (laF 1 q cl c') (laB (lamE 1)) ["fresh"] (spLD K c)) ∧ ∀ S q e m A, ShAt K S m A sF → e (He.ga K "StoreError") S → c [some (.ref m)] S q e := by
  refine ⟨fun δ S q e => _, fun f c' q cl => lokD (k := 4) (nscope_by (nsc 1)) (fun _ _ => rfl) _ fun e A outer s H E hr =>
    (de_meth (nm := nm_Shelf) rfl m_Shelf_set_row (by decide +kernel) dfl_nil hr (by decide) paN (dv (pv 0)) (da_cons de_str (da_cons (de_op od_mul de_str de_int) (da_cons de_str da_nil)))), fun S q e m A sh he => ?_⟩
  · have ins := sh.ins
    walk_at "go"
    refine ⟨m, A, sF, "p", _, _, rfl, rfl, (fun z => by cases z), rfl, sh, (fun p l z => by cases z; exact Nat.zero_le _), ?_⟩
    refine ift_t (by decide +kernel) ?_
    rw [show rowOk (.str (repS "k" (51 : Int).toNat)) (.str "x") = none from by unfold rowOk; exact if_pos (Or.inr (by decide +kernel))]
    exact he
theorem lok2 (m_Shelf_set_row : MetX P w K mg base 3 (He.ga K "Shelf") "set_row" (spD K (cSet K)) []) : ∃ c : DLp, (∀ (f c' : Addr) (q : Str) (cl : List (Str × Addr)), LOk P w K mg base 5 f (laF 2 q cl c') (laB (lamE 2)) ["fresh"] (spLD K c)) ∧ ∀ S q e m A, ShAt K S m A sF → e (He.ga K "StoreError") S → c [some (.ref m)] S q e := by
  refine ⟨fun δ S q e => _, fun f c' q cl => lokD (k := 4) (nscope_by (nsc 2)) (fun _ _ => rfl) _ fun e A outer s H E hr =>
    (de_meth (nm := nm_Shelf) rfl m_Shelf_set_row (by decide +kernel) dfl_nil hr (by decide) paN (dv (pv 0)) (da_cons de_str (da_cons de_str (da_cons de_int da_nil)))), fun S q e m A sh he => ?_⟩
  · have ins := sh.ins
    walk_at "go"
    refine ⟨m, A, sF, "p", _, _, rfl, rfl, (fun z => by cases z), rfl, sh, (fun p l z => by cases z; exact Nat.zero_le _), ?_⟩
    refine ift_t (by decide +kernel) ?_
    rw [show rowOk (.str "a") (.int 5) = none from rfl]
    exact he
theorem lok3 (m_Shelf_set_row : MetX P w K mg base 3 (He.ga K "Shelf") "set_row" (spD K (cSet K)) []) : ∃ c : DLp, (∀ (f c' : Addr) (q : Str) (cl : List (Str × Addr)), LOk P w K mg base 5 f (laF 3 q cl c') (laB (lamE 3)) ["fresh"] (spLD K c)) ∧ ∀ S q e m A, ShAt K S m A sF → e (He.ga K "StoreError") S → c [some (.ref m)] S q e := by
  refine ⟨fun δ S q e => _, fun f c' q cl => lokD (k := 4) (nscope_by (nsc 3)) (fun _ _ => rfl) _ fun e A outer s H E hr =>
    (de_meth (nm := nm_Shelf) rfl m_Shelf_set_row (by decide +kernel) dfl_nil hr (by decide) paN (dv (pv 0)) (da_cons de_str (da_cons de_int (da_cons de_str da_nil)))), fun S q e m A sh he => ?_⟩
  · have ins := sh.ins
    walk_at "go"
    refine ⟨m, A, sF, "p", _, _, rfl, rfl, (fun z => by cases z), rfl, sh, (fun p l z => by cases z; exact Nat.zero_le _), ?_⟩
    refine ift_t (by decide +kernel) ?_
    rw [show rowOk (.int 5) (.str "x") = none from rfl]
    exact he
theorem lok4 (m_Shelf_owned : MetX P w K mg base 2 (He.ga K "Shelf") "owned" (spD K (cOwned K)) []) : ∃ c : DLp, (∀ (f c' : Addr) (q : Str) (cl : List (Str × Addr)), LOk P w K mg base 5 f (laF 4 q cl c') (laB (lamE 4)) ["fresh"] (spLD K c)) ∧ ∀ S q e m A, ShAt K S m A sF → e (He.ga K "StoreError") S → c [some (.ref m)] S q e := by
  refine ⟨fun δ S q e => _, fun f c' q cl => lokD (k := 4) (nscope_by (nsc 4)) (fun _ _ => rfl) _ fun e A outer s H E hr =>
    (de_meth (nm := nm_Shelf) rfl m_Shelf_owned (by decide +kernel) dfl_nil hr (by decide) paN (dv (pv 0)) (da_cons de_str da_nil)), fun S q e m A sh he => ?_⟩
  · have ins := sh.ins
    walk_at "go"
    refine ⟨m, A, sF, "z", rfl, sh, ?_⟩
    exact ift_f (by decide +kernel) he
theorem lok5 (m_Shelf_read_row : MetX P w K mg base 3 (He.ga K "Shelf") "read_row" (spD K (cRead K)) []) : ∃ c : DLp, (∀ (f c' : Addr) (q : Str) (cl : List (Str × Addr)), LOk P w K mg base 5 f (laF 5 q cl c') (laB (lamE 5)) ["fresh"] (spLD K c)) ∧ ∀ S q e m A, ShAt K S m A sF → e (He.ga K "StoreError") S → c [some (.ref m)] S q e := by
  refine ⟨fun δ S q e => _, fun f c' q cl => lokD (k := 4) (nscope_by (nsc 5)) (fun _ _ => rfl) _ fun e A outer s H E hr =>
    (de_meth (nm := nm_Shelf) rfl m_Shelf_read_row (by decide +kernel) dfl_nil hr (by decide) paN (dv (pv 0)) (da_cons de_str (da_cons de_str da_nil))), fun S q e m A sh he => ?_⟩
  · have ins := sh.ins
    walk_at "go"
    refine ⟨m, A, sF, "z", "a", rfl, sh, ?_⟩
    exact ift_f (by decide +kernel) he
theorem lok6 (m_Shelf_need : MetX P w K mg base 1 (He.ga K "Shelf") "need" (spD K (cNeed K)) []) : ∃ c : DLp, (∀ (f c' : Addr) (q : Str) (cl : List (Str × Addr)), LOk P w K mg base 5 f (laF 6 q cl c') (laB (lamE 6)) ["fresh"] (spLD K c)) ∧ ∀ S q e m A, ShAt K S m A sF → e (He.ga K "StoreError") S → c [some (.ref m)] S q e := by
  refine ⟨fun δ S q e => _, fun f c' q cl => lokD (k := 4) (nscope_by (nsc 6)) (fun _ _ => rfl) _ fun e A outer s H E hr =>
    (de_meth (nm := nm_Shelf) rfl m_Shelf_need (by decide +kernel) dfl_nil hr (by decide) paN (dv (pv 0)) (da_cons de_str da_nil)), fun S q e m A sh he => ?_⟩
  · have ins := sh.ins
    walk_at "go"
    refine ⟨m, A, sF, "z", rfl, sh, ?_⟩
    exact ift_f (by decide +kernel) he
theorem lamFrs : ([0, 1, 2, 3, 4, 5, 6].all fun i => freeB (defScope s_law) (laS (defScope s_law) (lamE i)) && decide ((("fresh" : Str), NameKind.free) ∈ (laS (defScope s_law) (lamE i)).names)) = true := by decide +kernel
theorem lamFr (i : Nat) (hi : i ∈ [0, 1, 2, 3, 4, 5, 6] := by decide) : freeB (defScope s_law) (laS (defScope s_law) (lamE i)) = true ∧ ∀ y ∈ (["fresh"] : List Str), (y, NameKind.free) ∈ (laS (defScope s_law) (lamE i)).names := by
  have h := List.all_eq_true.mp lamFrs i hi
  rw [Bool.and_eq_true] at h
  exact ⟨h.1, fun y hy => by rw [List.mem_singleton.mp hy]; exact of_decide_eq_true h.2⟩
theorem np8a {S : Store} {a b : Addr} {c : Cell} (_ : S a = none) (n : b ≠ a) (h : S b = none) : sput S a c b = none := (sput_ne n).trans h
theorem bl_tail (T : Tx K mg) {f c0 : Addr} {A0 : Around} {outer : List Env} {s0 : Shared} {HE : Hp} {E : XK} {e : DX} (V : Env17 P w K mg base c0) (k_Shelf : MakX P w K mg base 1 "Shelf" (He.ga K "Shelf") (spD K (cShelf K)) []) (k_Change : MakX P w K mg base 1 "Change" (He.ga K "Change") (spD K (cChange K)) [])
    (m_Shelf_owned : MetX P w K mg base 2 (He.ga K "Shelf") "owned" (spD K (cOwned K)) []) (m_Shelf_read_row : MetX P w K mg base 3 (He.ga K "Shelf") "read_row" (spD K (cRead K)) []) (m_Shelf_need : MetX P w K mg base 1 (He.ga K "Shelf") "need" (spD K (cNeed K)) []) (m_Shelf_after : MetX P w K mg base 1 (He.ga K "Shelf") "after" (spD K (cAfter K)) [])
    (hr : Room 14 (A0.deeper (envOfC "law" (defScope s_law) s0.heap.objs.size f (.ref c0)))) :
    ∃ t, PSs (lcx P w K mg base f (.ref c0) A0 outer s0 HE E) bd_tail (tDS K E e t) ∧ ∀ (D : DEnds) (S : Store) (d m o : Addr) (δ : DS), Sl δ d m o → TabX (tb K) S → (∀ S', D.rt (.bl true) S') → t D δ S := by
  obtain ⟨m_Shelf_open_page, m_Shelf_close_page, m_Shelf_begin, m_Shelf_set_row, m_Shelf_commit, m_Shelf_roll_back, m_Shelf_told, c__law_roll, c__law_kept, c__law_reads, ⟨fdT, FT⟩, TB, hne⟩ := V
  have hTu := hTu_of hne
  obtain ⟨oc, od, dV, kV, doc, pm, an, cdv, ct, osl, efd, lkT, hcdT, _, _⟩ := id FT.ex
  have bT : Binds K fdT ["what"] [] := FT.bindsN fun _ _ _ _ _ _ us hl => match us, hl with | [_], _ => rfl
  subst efd
  refine ⟨_, (dss_cons (ds_set (i := 15) sc_law.nd rfl (Or.inr rfl) (de_make0 (nm := nm_Shelf) rfl k_Shelf dfl_nil hr (by decide) rfl paX))
  (dss_cons (ds_expr (de_meth (nm := nm_Shelf) rfl m_Shelf_open_page (by decide +kernel) dfl_nil hr (by decide) paX (dv (pv 15)) (da_cons de_str da_nil)))
  (dss_cons (ds_expr (de_meth (nm := nm_Shelf) rfl m_Shelf_begin (by decide +kernel) dfl_nil hr (by decide) paX (dv (pv 15)) (da_cons de_str da_nil)))
  (dss_cons (ds_set (i := 16) sc_law.nd rfl (Or.inl rfl) (de_lst (da_cons (de_lamV (T := tb K) TB rfl List.mem_cons_self hTu rfl (free_by (sc := defScope s_law) (by decide +kernel))) (da_cons (de_lamV (T := tb K) TB rfl List.mem_cons_self hTu rfl (free_by (sc := defScope s_law) (by decide +kernel))) (da_cons (de_lamV (T := tb K) TB rfl List.mem_cons_self hTu rfl (free_by (sc := defScope s_law) (by decide +kernel))) (da_cons (de_lamV (T := tb K) TB rfl List.mem_cons_self hTu rfl (free_by (sc := defScope s_law) (by decide +kernel))) (da_cons (de_lamV (T := tb K) TB rfl List.mem_cons_self hTu rfl (free_by (sc := defScope s_law) (by decide +kernel))) (da_cons (de_lamV (T := tb K) TB rfl List.mem_cons_self hTu rfl (free_by (sc := defScope s_law) (by decide +kernel))) (da_cons (de_lamV (T := tb K) TB rfl List.mem_cons_self hTu rfl (free_by (sc := defScope s_law) (by decide +kernel))) da_nil)))))))))
  (dss_cons (ds_set (i := 17) sc_law.nd rfl (Or.inl rfl) (de_frz (de_make (nm := nm_Change) rfl k_Change dfl_nil hr (by decide) rfl paX (da_cons de_str da_nil))))
  (dss_cons (ds_asg de_str (dg_subD (hu_of hr) (de_fld rfl (fd_Change_rows T) (dv (pv 17))) de_str))
  (dss_one (ds_ret (de_and rfl (de_cmp (od_eqV rfl (hU_of hr)) (de_lcI (own := [("f", 19)]) rfl sc_law.nd (di_lst rfl (dv (pv 16))) (blkOk_by (own := [("f", 19)]) (N := sl_law) (sc := defScope s_law) (by decide +kernel)) (fun _ _ _ _ _ => (gw_name (i := 19) sc_law.nd rfl (Or.inl rfl) (by decide))) (fun pins σ s H C cl fp I hfp => ts_bad (K := K) (k := 5) (i := 19) (g := He.ga K "_law_told") (Ng := sl_law_told) I hfp rfl rfl T.g__law_told FT.kp lkT hcdT bT sc_law_told rfl (Or.inl rfl) rfl T.g_StoreError T.e_StoreError_StoreError (by decide) (fun _ => rfl) (hr.mono (by decide)) rfl (Or.inl rfl)) (fun _ _ _ _ _ => de_int)) (de_lst da_nil)) (de_and rfl (de_cmp (od_eqDic (hV_of hr)) (de_meth (nm := nm_Shelf) rfl m_Shelf_after (by decide +kernel) dfl_nil hr (by decide) paX (dv (pv 15)) (da_cons (dv (pv 17)) da_nil)) (de_dispO (dps_cons de_str de_str dps_nil) (by rfl) (by rfl) (fun z => by cases z) (by decide))) (pe_one (de_cmp od_is (de_meth (nm := nm_Shelf) rfl m_Shelf_set_row (by decide +kernel) dfl_nil hr (by decide) paX (dv (pv 15)) (da_cons de_str (da_cons (de_op od_mul de_str de_int) (da_cons de_non da_nil)))) de_non)))))))))))), fun D S d m o δ sl tx rt => ?_⟩
  obtain ⟨u0, u4, u5, u6, u7, u8, u9, u10, u11, u12, u13, u14, u15, u16, u17, u18, u19, rfl⟩ := sl
  obtain ⟨d0, L0, h0⟩ := lok0 (w := w) (mg := mg) (base := base) m_Shelf_set_row
  obtain ⟨d1, L1, h1⟩ := lok1 (w := w) (mg := mg) (base := base) m_Shelf_set_row
  obtain ⟨d2, L2, h2⟩ := lok2 (w := w) (mg := mg) (base := base) m_Shelf_set_row
  obtain ⟨d3, L3, h3⟩ := lok3 (w := w) (mg := mg) (base := base) m_Shelf_set_row
  obtain ⟨d4, L4, h4⟩ := lok4 (w := w) (mg := mg) (base := base) m_Shelf_owned
  obtain ⟨d5, L5, h5⟩ := lok5 (w := w) (mg := mg) (base := base) m_Shelf_read_row
  obtain ⟨d6, L6, h6⟩ := lok6 (w := w) (mg := mg) (base := base) m_Shelf_need
  walk_at "go"
  intro m1 nm1
  refine ⟨m1, rfl, sput_same, fun A1 S1 sh1 f1 n1 => ⟨rfl, ?_⟩⟩
  have tx0 : TabX (tb K) (sput S m1 (.ins (He.ga K "Shelf") nm_Shelf [])) := tx.put (fun q z => by rw [nm1] at z; cases z) (fun q z => by cases z)
  have tx1 : TabX (tb K) S1 := tx0.frm f1 fun b hb q z => by rw [List.mem_singleton.mp hb, sput_same] at z; cases z
  have ins := sh1.ins
  have nt1 := own_nt sh1
  walk_at "go"
  refine ⟨m1, A1, _, "p", rfl, sh1, Nat.zero_le _, ?_⟩
  refine ift_f (by decide) ?_
  intro A2 S2 sh2 f2 n2
  have tx2 : TabX (tb K) S2 := tx1.frm f2 fun b hb q z => by obtain ⟨c, hc, nt⟩ := nt1 b hb; rw [hc] at z; exact nt q (Option.some.inj z)
  have ins := sh2.ins
  have nt2 := own_nt sh2
  walk_at "go"
  refine ⟨m1, A2, _, "p", rfl, sh2, ?_⟩
  refine ift_t (by decide) ?_
  intro A3 S3 sh3 f3 n3
  have tx3 : TabX (tb K) S3 := tx2.frm f3 fun b hb q z => by obtain ⟨c, hc, nt⟩ := nt2 b hb; rw [hc] at z; exact nt q (Option.some.inj z)
  have sh3 : ShAt K S3 m1 A3 sF := sh3
  walk_at "go"
  intro c1
  walk_at "go"
  intro c2
  walk_at "go"
  intro c3
  walk_at "go"
  intro c4
  walk_at "go"
  intro c5
  walk_at "go"
  intro c6
  walk_at "go"
  intro c7
  walk_at "go"
  intro p4 np4
  refine ⟨p4, "p", rfl, sput_same, fun p5 np5 n45 => ⟨rfl, ?_⟩⟩
  walk_at "go"
  obtain ⟨np5a, np5⟩ := sput_free np5
  have np5 : S3 p5 = none := by first | exact np5 | exact (sput_free np5).2
  generalize hS6 : sput (sdel _ p4) p5 _ = S6
  have f6 : Frm [] S3 S6 := by
    rw [← hS6]
    exact ((((((Frm.refl.own np4).own np4).own np5).own np4).delN np4).own np5)
  have c6_ : S6 p5 = some (.dic (encD oS [("a", some "1")])) := by
    rw [← hS6]
    exact sput_same
  have sh6 := sh3.frm f6 (by simp)
  clear hS6
  refine ⟨_, _, ["fresh"], [15], d0, rfl, ⟨⟨free_by (lamFr 0).1, rfl, (lamFr 0).2, rfl⟩, fun f => L0 f c1 _ _⟩, h0 _ _ _ m1 A3 sh6 ⟨rfl, ?_⟩⟩
  walk_at "go"
  refine ⟨_, _, ["fresh"], [15], d1, rfl, ⟨⟨free_by (lamFr 1).1, rfl, (lamFr 1).2, rfl⟩, fun f => L1 f c2 _ _⟩, h1 _ _ _ m1 A3 sh6 ⟨rfl, ?_⟩⟩
  walk_at "go"
  refine ⟨_, _, ["fresh"], [15], d2, rfl, ⟨⟨free_by (lamFr 2).1, rfl, (lamFr 2).2, rfl⟩, fun f => L2 f c3 _ _⟩, h2 _ _ _ m1 A3 sh6 ⟨rfl, ?_⟩⟩
  walk_at "go"
  refine ⟨_, _, ["fresh"], [15], d3, rfl, ⟨⟨free_by (lamFr 3).1, rfl, (lamFr 3).2, rfl⟩, fun f => L3 f c4 _ _⟩, h3 _ _ _ m1 A3 sh6 ⟨rfl, ?_⟩⟩
  walk_at "go"
  refine ⟨_, _, ["fresh"], [15], d4, rfl, ⟨⟨free_by (lamFr 4).1, rfl, (lamFr 4).2, rfl⟩, fun f => L4 f c5 _ _⟩, h4 _ _ _ m1 A3 sh6 ⟨rfl, ?_⟩⟩
  walk_at "go"
  refine ⟨_, _, ["fresh"], [15], d5, rfl, ⟨⟨free_by (lamFr 5).1, rfl, (lamFr 5).2, rfl⟩, fun f => L5 f c6 _ _⟩, h5 _ _ _ m1 A3 sh6 ⟨rfl, ?_⟩⟩
  walk_at "go"
  refine ⟨_, _, ["fresh"], [15], d6, rfl, ⟨⟨free_by (lamFr 6).1, rfl, (lamFr 6).2, rfl⟩, fun f => L6 f c7 _ _⟩, h6 _ _ _ m1 A3 sh6 ⟨rfl, ?_⟩⟩
  walk_at "go"
  refine ⟨⟨rfl, rfl, by decide, by decide⟩, ?_⟩
  rw [show deqv (Dt.lst []) (.lst []) = true from rfl]
  have ins := sh6.ins
  have rows6 := sh6.rows
  walk_at "go"
  refine ⟨m1, A3.R, _, _, _, .non, p5, "p", [], [("a", some "1")], rfl, ins, rows6, c6_, by decide, fun p7 np7 => ?_⟩
  rw [show afterOf [] [(("a" : Str), some ("1" : Str))] = [(("a" : Str), ("1" : Str))] from by decide +kernel]
  walk_at "go"
  intro p8 np8
  obtain ⟨n78, np8⟩ := sput_free np8
  walk_at "go"
  refine ⟨⟨rfl, fun p hp => ?_⟩, ?_⟩
  · rw [List.mem_singleton.mp hp]
    exact ⟨rfl, rfl⟩
  have sh7 := (sh6.frm (Frm.refl.own np7 : Frm [] S6 (sput S6 p7 (.dic (encD Dt.str [(("a" : Str), ("1" : Str))])))) (by simp)).frm (Frm.refl.own (c := .dic (kMerge [] [(Sum.inr "a", .str "1")])) (np8a np7 n78 np8) : Frm [] _ _) (by simp)
  have ins := sh7.ins
  walk_at "go"
  refine ⟨m1, A3, _, "p", _, _, rfl, rfl, (fun z => by cases z), rfl, sh7, (fun p l z => by cases z; exact Nat.zero_le _), ?_⟩
  refine ift_t (by decide +kernel) ?_
  rw [show rowOk (.str (repS "k" (50 : Int).toNat)) .non = some (repS "k" (50 : Int).toNat, none) from by unfold rowOk; exact if_neg (by decide +kernel)]
  intro A8 S8 sh8 f8 n8
  walk_at "go"
  exact rt _
end
end K17

open PySem PySem.Spec PyProof.Rows L2 Pr Dn LamX NdefX

namespace K17
def cLaw (K : PySem.W.Frag) : DSp := fun ds S q _ => ∃ ns : List Int, ds = [.scr ns] ∧ ns.length ≤ 10000 ∧ TabX (tb K) S ∧ ∀ S', q (.bl true) S'
section
variable {P : Program} {w : World} {K : PySem.W.Frag} {mg : Str → Option Value} {base : Heap}
theorem ok_law (T : Tx K mg) (V : ∀ c0, TabB base mg c0 (PtL K) → Env17 P w K mg base c0) (c__law_rounds : CalX P w K mg base 2 "_law_rounds" (spD K cRounds) []) (k_Shelf : MakX P w K mg base 1 "Shelf" (He.ga K "Shelf") (spD K (cShelf K)) []) (k_Change : MakX P w K mg base 1 "Change" (He.ga K "Change") (spD K (cChange K)) [])
    (m_Shelf_owned : MetX P w K mg base 2 (He.ga K "Shelf") "owned" (spD K (cOwned K)) []) (m_Shelf_read_row : MetX P w K mg base 3 (He.ga K "Shelf") "read_row" (spD K (cRead K)) []) (m_Shelf_need : MetX P w K mg base 1 (He.ga K "Shelf") "need" (spD K (cNeed K)) []) (m_Shelf_after : MetX P w K mg base 1 (He.ga K "Shelf") "after" (spD K (cAfter K)) [])
    {f : Addr} {fd : FuncData} (F : FunD K "law" "law" (defArgs s_law) (defBody s_law) (defScope s_law) [] [] f fd) (hTB : ∀ c, fd.code = .ref c → TabB base mg c (PtL K)) : FnOk P w K mg base (L2.CX P w) 15 f fd ["script"] (spD K (cLaw K)) := by
  refine dfnC 20 F sc_law hTB (fun ds S q e h => ?_) rfl (fun c0 A outer s H E e TB hr => ?_)
  · obtain ⟨ns, rfl, _⟩ := h
    rfl
  · obtain ⟨t1, p_dice, h_dice⟩ := bl_dice (f := f) (A0 := A) (outer := outer) (s0 := s) (HE := H) (E := E) (e := e) T (V c0 TB) k_Shelf hr
    obtain ⟨t2, p_tail, h_tail⟩ := bl_tail (f := f) (A0 := A) (outer := outer) (s0 := s) (HE := H) (E := E) (e := e) T (V c0 TB) k_Shelf k_Change m_Shelf_owned m_Shelf_read_row m_Shelf_need m_Shelf_after hr
    refine ⟨_, (dss_cons (ds_for poX rfl (di_lst rfl (de_call rfl c__law_rounds dfl_nil hr (by decide) rfl paX (da_cons (dv (pv 0)) (da_cons de_int da_nil)))) (dg_name (i := 1) sc_law.nd rfl (Or.inl rfl)) p_dice)
  p_tail), fun ds S q h => ?_⟩
    obtain ⟨ns, rfl, nl, tx, kk⟩ := h
    walk_at "go"
    refine ⟨ns, rfl, nl, fun p x n k np => ?_⟩
    have tx1 : TabX (tb K) (sput S p (.lst [.int x, .int n, .int k])) := tx.put (fun q z => by rw [np] at z; cases z) (fun q z => by cases z)
    walk_at "go"
    exact h_dice _ _ p _ _ _ _ _ _ _ _ _ _ _ _ _ _ _ _ _ _ _ tx1 ⟨x, n, k, sput_same⟩ fun δ' S' ⟨m, o, sl⟩ tx' => ⟨trivial, h_tail _ S' p m o δ' sl tx' kk⟩
end
abbrev PL_ : Program := PySem.Challenge.rw_pagestack_k17_shelves_that_change_whole.prog
theorem law_at_ (w : World) (mg : Str → Option Value) (fa_ : Addr) (h : Heap) {K : PySem.W.Frag} (KX : K.In h) (G : h.Ns mainGlobals mg) (hfa : mg ("law" : Str) = some (.ref fa_)) (c : He.SaysX fa fn ts tf exB w h K) :
    LamX.LawAtS PySem.Challenge.rw_pagestack_k17_shelves_that_change_whole w K (L2.CX PL_ w) 15 63 "script" mg fa_ h := by
  have T : Tx K mg := tx_of KX G c.t.d c.more
  have efa := hfa.symm.trans T.g_law
  cases efa
  have hne : PtL K ≠ PtC K := of_decide_eq_true c.more
  obtain ⟨fd_Change_init, F_Change_init⟩ := c.t.d.def_ 0 (d := d_Change_init) rfl
  obtain ⟨fd_Shelf_init, F_Shelf_init⟩ := c.t.d.def_ 1 (d := d_Shelf_init) rfl
  obtain ⟨fd_Shelf_open_page, F_Shelf_open_page⟩ := c.t.d.def_ 2 (d := d_Shelf_open_page) rfl
  obtain ⟨fd_Shelf_close_page, F_Shelf_close_page⟩ := c.t.d.def_ 3 (d := d_Shelf_close_page) rfl
  obtain ⟨fd_Shelf_need, F_Shelf_need⟩ := c.t.d.def_ 4 (d := d_Shelf_need) rfl
  obtain ⟨fd_Shelf_begin, F_Shelf_begin⟩ := c.t.d.def_ 5 (d := d_Shelf_begin) rfl
  obtain ⟨fd_Shelf_owned, F_Shelf_owned⟩ := c.t.d.def_ 6 (d := d_Shelf_owned) rfl
  obtain ⟨fd_Shelf_set_row, F_Shelf_set_row⟩ := c.t.d.def_ 7 (d := d_Shelf_set_row) rfl
  obtain ⟨fd_Shelf_read_row, F_Shelf_read_row⟩ := c.t.d.def_ 8 (d := d_Shelf_read_row) rfl
  obtain ⟨fd_Shelf_after, F_Shelf_after⟩ := c.t.d.def_ 9 (d := d_Shelf_after) rfl
  obtain ⟨fd_Shelf_commit, F_Shelf_commit⟩ := c.t.d.def_ 10 (d := d_Shelf_commit) rfl
  obtain ⟨fd_Shelf_roll_back, F_Shelf_roll_back⟩ := c.t.d.def_ 11 (d := d_Shelf_roll_back) rfl
  obtain ⟨fd_Shelf_told, F_Shelf_told⟩ := c.t.d.def_ 12 (d := d_Shelf_told) rfl
  obtain ⟨fd_law_dice, F_law_dice⟩ := c.t.d.def_ 13 (d := d_law_dice) rfl
  obtain ⟨fd_law_roll, F_law_roll⟩ := c.t.d.def_ 14 (d := d_law_roll) rfl
  obtain ⟨fd_law_rounds, F_law_rounds⟩ := c.t.d.def_ 15 (d := d_law_rounds) rfl
  obtain ⟨fd_law_told, F_law_told⟩ := c.t.d.def_ 16 (d := d_law_told) rfl
  obtain ⟨fd_law_after, F_law_after⟩ := c.t.d.def_ 17 (d := d_law_after) rfl
  obtain ⟨fd_law_kept, F_law_kept⟩ := c.t.d.def_ 18 (d := d_law_kept) rfl
  obtain ⟨fd_law_reads, F_law_reads⟩ := c.t.d.def_ 19 (d := d_law_reads) rfl
  obtain ⟨fd_law, F_law⟩ := c.t.d.def_ 20 (d := d_law) rfl
  refine ⟨fd_law, [He.cT K ("law", none), He.cT K ("Shelf", some "commit")], spD K (cLaw K), fun p hp => ?_, fun p hp => ?_, fun p hp => ?_, fun s u => ?_, fun H a ns hl hbits hP hS => ?_, fun base KB GB TB => ?_⟩
  · simp only [List.mem_cons, List.not_mem_nil, or_false] at hp
    rcases hp with rfl | rfl
    · exact c.empty ("law", none) List.mem_cons_self
    · exact c.empty ("Shelf", some "commit") (List.mem_cons_of_mem _ List.mem_cons_self)
  · simp only [List.mem_cons, List.not_mem_nil, or_false] at hp
    rcases hp with rfl | rfl
    · exact c.out ("law", none) List.mem_cons_self
    · exact c.out ("Shelf", some "commit") (List.mem_cons_of_mem _ List.mem_cons_self)
  · simp only [List.mem_cons, List.not_mem_nil, or_false] at hp
    rcases hp with rfl | rfl
    · exact PySem.W.codeHd_of_K KX (c.hd ("law", none) List.mem_cons_self)
    · exact PySem.W.codeHd_of_K KX (c.hd ("Shelf", some "commit") (List.mem_cons_of_mem _ List.mem_cons_self))
  · exact FunD.bindsA (ps := ["script"]) F_law (fun _ _ _ _ _ _ us hl => match us, hl with | [_], _ => rfl) s [u] rfl
  · refine law_start (T := tb K) (by simpa using hne) (fun p hp => ?_) hS fun S q tx hq => ⟨ns, rfl, by omega, tx, hq⟩
    simp only [List.mem_cons, List.not_mem_nil, or_false] at hp
    rcases hp with rfl | rfl
    · exact hP _ List.mem_cons_self
    · exact hP _ (List.mem_cons_of_mem _ List.mem_cons_self)
  · have tb_law : ∀ c, fd_law.code = .ref c → TabB base mg c (He.cT K ("law", none)).2 := by
      obtain ⟨oc, od, dV, kV, doc, pm, an, cdv, ct, osl, efd, lk, _, _, _⟩ := F_law.ex
      exact fun c e => tab_at (p := ("law", none)) lk (TB _ List.mem_cons_self) e
    have tb_Shelf_commit : ∀ c, fd_Shelf_commit.code = .ref c → TabB base mg c (He.cT K ("Shelf", some "commit")).2 := by
      obtain ⟨oc, od, dV, kV, doc, pm, an, cdv, ct, osl, efd, lk, _, _, _⟩ := F_Shelf_commit.ex
      exact fun c e => tab_at (p := ("Shelf", some "commit")) lk (TB _ (List.mem_cons_of_mem _ List.mem_cons_self)) e
    have k_Change : MakX PL_ w K mg base 1 "Change" (He.ga K "Change") (spD K (cChange K)) [] := ⟨⟨_, _, _, [], T.mk_Change, ok_Change T F_Change_init, T.g_Change, (F_Change_init.bindsN fun _ _ _ _ _ _ us hl => match us, hl with | [_, _], _ => rfl), .nil⟩⟩
    have k_Shelf : MakX PL_ w K mg base 1 "Shelf" (He.ga K "Shelf") (spD K (cShelf K)) [] := ⟨⟨_, _, _, [], T.mk_Shelf, ok_Shelf T F_Shelf_init, T.g_Shelf, (F_Shelf_init.bindsN fun _ _ _ _ _ _ us hl => match us, hl with | [_], _ => rfl), .nil⟩⟩
    have m_Shelf_open_page : MetX PL_ w K mg base 1 (He.ga K "Shelf") "open_page" (spD K (cOpen K)) [] := ⟨⟨_, _, _, [], T.cl_Shelf, T.me_Shelf_open_page, ok_open T F_Shelf_open_page, (F_Shelf_open_page.bindsN fun _ _ _ _ _ _ us hl => match us, hl with | [_, _], _ => rfl), .nil⟩⟩
    have m_Shelf_need : MetX PL_ w K mg base 1 (He.ga K "Shelf") "need" (spD K (cNeed K)) [] := ⟨⟨_, _, _, [], T.cl_Shelf, T.me_Shelf_need, ok_need T F_Shelf_need, (F_Shelf_need.bindsN fun _ _ _ _ _ _ us hl => match us, hl with | [_, _], _ => rfl), .nil⟩⟩
    have m_Shelf_close_page : MetX PL_ w K mg base 3 (He.ga K "Shelf") "close_page" (spD K (cClose K)) [] := ⟨⟨_, _, _, [], T.cl_Shelf, T.me_Shelf_close_page, ok_close T m_Shelf_need F_Shelf_close_page, (F_Shelf_close_page.bindsN fun _ _ _ _ _ _ us hl => match us, hl with | [_, _], _ => rfl), .nil⟩⟩
    have m_Shelf_begin : MetX PL_ w K mg base 3 (He.ga K "Shelf") "begin" (spD K (cBegin K)) [] := ⟨⟨_, _, _, [], T.cl_Shelf, T.me_Shelf_begin, ok_begin T m_Shelf_need k_Change F_Shelf_begin, (F_Shelf_begin.bindsN fun _ _ _ _ _ _ us hl => match us, hl with | [_, _], _ => rfl), .nil⟩⟩
    have m_Shelf_owned : MetX PL_ w K mg base 2 (He.ga K "Shelf") "owned" (spD K (cOwned K)) [] := ⟨⟨_, _, _, [], T.cl_Shelf, T.me_Shelf_owned, ok_owned T m_Shelf_need F_Shelf_owned, (F_Shelf_owned.bindsN fun _ _ _ _ _ _ us hl => match us, hl with | [_, _], _ => rfl), .nil⟩⟩
    have m_Shelf_set_row : MetX PL_ w K mg base 3 (He.ga K "Shelf") "set_row" (spD K (cSet K)) [] := ⟨⟨_, _, _, [], T.cl_Shelf, T.me_Shelf_set_row, ok_set T m_Shelf_owned F_Shelf_set_row, (F_Shelf_set_row.bindsN fun _ _ _ _ _ _ us hl => match us, hl with | [_, _, _, _], _ => rfl), .nil⟩⟩
    have m_Shelf_read_row : MetX PL_ w K mg base 3 (He.ga K "Shelf") "read_row" (spD K (cRead K)) [] := ⟨⟨_, _, _, [], T.cl_Shelf, T.me_Shelf_read_row, ok_read T m_Shelf_need F_Shelf_read_row, (F_Shelf_read_row.bindsN fun _ _ _ _ _ _ us hl => match us, hl with | [_, _, _], _ => rfl), .nil⟩⟩
    have m_Shelf_after : MetX PL_ w K mg base 1 (He.ga K "Shelf") "after" (spD K (cAfter K)) [] := ⟨⟨_, _, _, [], T.cl_Shelf, T.me_Shelf_after, ok_after T F_Shelf_after, (F_Shelf_after.bindsN fun _ _ _ _ _ _ us hl => match us, hl with | [_, _], _ => rfl), .nil⟩⟩
    have m_Shelf_commit : MetX PL_ w K mg base 3 (He.ga K "Shelf") "commit" (spD K (cCommit K)) [] := ⟨⟨_, _, _, [], T.cl_Shelf, T.me_Shelf_commit, (fun F => ok_commit T m_Shelf_owned m_Shelf_after hne F tb_Shelf_commit)  F_Shelf_commit, (F_Shelf_commit.bindsN fun _ _ _ _ _ _ us hl => match us, hl with | [_, _], _ => rfl), .nil⟩⟩
    have m_Shelf_roll_back : MetX PL_ w K mg base 3 (He.ga K "Shelf") "roll_back" (spD K (cRoll K)) [] := ⟨⟨_, _, _, [], T.cl_Shelf, T.me_Shelf_roll_back, ok_roll_back T m_Shelf_owned F_Shelf_roll_back, (F_Shelf_roll_back.bindsN fun _ _ _ _ _ _ us hl => match us, hl with | [_, _], _ => rfl), .nil⟩⟩
    have m_Shelf_told : MetX PL_ w K mg base 3 (He.ga K "Shelf") "told" (spD K (cTold K)) [] := ⟨⟨_, _, _, [], T.cl_Shelf, T.me_Shelf_told, ok_told T m_Shelf_need F_Shelf_told, (F_Shelf_told.bindsN fun _ _ _ _ _ _ us hl => match us, hl with | [_, _], _ => rfl), .nil⟩⟩
    have c__law_dice : CalX PL_ w K mg base 1 "_law_dice" (spD K cDice) [] := ⟨⟨_, _, _, [], ok_dice T F_law_dice, T.g__law_dice, F_law_dice.kp, (F_law_dice.bindsN fun _ _ _ _ _ _ us hl => match us, hl with | [_], _ => rfl), .nil⟩⟩
    have c__law_roll : CalX PL_ w K mg base 1 "_law_roll" (spD K Dn.cRoll) [] := ⟨⟨_, _, _, [], ok_roll T F_law_roll, T.g__law_roll, F_law_roll.kp, (F_law_roll.bindsN fun _ _ _ _ _ _ us hl => match us, hl with | [_, _], _ => rfl), .nil⟩⟩
    have c__law_rounds : CalX PL_ w K mg base 2 "_law_rounds" (spD K cRounds) [] := ⟨⟨_, _, _, [], ok_rounds T c__law_dice F_law_rounds, T.g__law_rounds, F_law_rounds.kp, (F_law_rounds.bindsN fun _ _ _ _ _ _ us hl => match us, hl with | [_, _], _ => rfl), .nil⟩⟩
    have c__law_after : CalX PL_ w K mg base 1 "_law_after" (spD K cLawAfter) [] := ⟨⟨_, _, _, [], ok_lawAfter T F_law_after, T.g__law_after, F_law_after.kp, (F_law_after.bindsN fun _ _ _ _ _ _ us hl => match us, hl with | [_, _], _ => rfl), .nil⟩⟩
    have c__law_kept : CalX PL_ w K mg base 2 "_law_kept" (spD K cKept) [] := ⟨⟨_, _, _, [], ok_kept T c__law_after F_law_kept, T.g__law_kept, F_law_kept.kp, (F_law_kept.bindsN fun _ _ _ _ _ _ us hl => match us, hl with | [_, _], _ => rfl), .nil⟩⟩
    have c__law_reads : CalX PL_ w K mg base 4 "_law_reads" (spD K (cReads K)) [] := ⟨⟨_, _, _, [], ok_reads T c__law_after m_Shelf_read_row F_law_reads, T.g__law_reads, F_law_reads.kp, (F_law_reads.bindsN fun _ _ _ _ _ _ us hl => match us, hl with | [_, _], _ => rfl), .nil⟩⟩
    exact ok_law T (fun c0 TBc => ⟨m_Shelf_open_page, m_Shelf_close_page, m_Shelf_begin, m_Shelf_set_row, m_Shelf_commit, m_Shelf_roll_back, m_Shelf_told, c__law_roll, c__law_kept, c__law_reads, ⟨_, F_law_told⟩, TBc, hne⟩) c__law_rounds k_Shelf k_Change m_Shelf_owned m_Shelf_read_row m_Shelf_need m_Shelf_after F_law tb_law
end K17
open PySem PySem.W PySem.Calls PyProof.Rows
set_option maxHeartbeats 0 in
theorem PySem.Challenge.cw_pagestack_k17_shelves_that_change_whole_holds : PySem.Challenge.rw_pagestack_k17_shelves_that_change_whole.Holds := by
  w_on; o_law
  refine HandSHeadRun.head_any (r := OpenLaw.row PySem.Challenge.rw_pagestack_k17_shelves_that_change_whole) (q := view (OpenLaw.row PySem.Challenge.rw_pagestack_k17_shelves_that_change_whole).prog [15]) (H := K17.hk) (ob := K17.ob) (M := 20000) (loose := K17.looseN) (d := HandSHeadRun.topDef (OpenLaw.row PySem.Challenge.rw_pagestack_k17_shelves_that_change_whole).prog 15) (kwd := []) K17.ob_eq
    (by kernel_rfl) (fun s => by kernel_rfl) K17.run (by kernel_rfl) (by kernel_rfl) (by kernel_rfl) (by rfl) (by first | assumption | decide +kernel) (by decide +kernel) ⟨rfl, rfl, rfl, rfl, rfl, by decide +kernel⟩ ?hw ?hc
  case hw => w_witness2
  case hc =>
    refine LamX.walk_ofTsE (l := PySem.Challenge.rw_pagestack_k17_shelves_that_change_whole) (n := 63) (k := 15) (x := "script") (CX := fun w => L2.CX PySem.Challenge.rw_pagestack_k17_shelves_that_change_whole.prog w) rfl (by decide) (by kernel_rfl) ⟨rfl, by decide, by decide⟩ ?F (fun w H s e s' z => ?hX)
    case F =>
      intro w mg fa h Y G hmg0
      obtain ⟨K, KX, c⟩ := Y
      have hmg : mg ("law" : PySem.Str) = some (.ref fa) := by
        have e : (HandSHeadRun.topDef (OpenLaw.row PySem.Challenge.rw_pagestack_k17_shelves_that_change_whole).prog 15).name = ("law" : PySem.Str) := by kernel_rfl
        rw [← e]
        exact hmg0
      exact ⟨K, KX, K17.law_at_ w mg fa h KX G hmg c⟩
    case hX =>
      obtain ⟨_, _, _, _, _, _, _, _, _, _, _, _, z⟩ := z
      exact z


