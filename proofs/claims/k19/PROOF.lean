import PyProof.Rows.All
import Wide.All
import OpenK.AllK
import Wide.FinOn
import HandS.ForMost
import HandS.ForExc
import HandS.Defaults
import HandS.Lambda
import HandS.EndTab
import HandS.Walk
import HandS.More
import HandS.Conv
import HandS.TupAny
import HandS.Style
import HandS.NoneIn
import HandS.IsInst
import HandS.ListItems
import HandS.Small
import HandS.Nested
import HandS.HeadWalk
import HandS.AnyAll
import HandS.GenList
import PyProof.TupleOfGen
import HandS.Deep
import HandS.Flow
import HandS.StrMore
import HandS.Iter
import HandS.DictComp
import HandS.HeadHook4
import HandS.FStr
import HandS.StrSplit
import HandS.RaiseMore
import KE.KStateDown
import HandS.Head0
import HandS.Head1
import HandS.Head2
import HandS.HeadEnd
import HandS.HeadHook1
import HandS.HeadHook2
import HandS.HeadHook3
import PySem.Challenge.RW_pagestack_k19_what_a_page_says
import KE.KIntText
import KE.KWords
import PyProof.StrLawsTight
import HandS.Text
import KE.SortKeyHeap
import KE.SortData
import HandS.ExcValue
import HandS.SortKw
import PyProof.NeKinds
import HandS.Flt
import KE.DataEq
import KE.KDictPairs
import KE.GoesEnum
import HandS.Sort
import HandS.BoundDict
import HandS.Zip
import HandS.SetKeys
import KE.GoesMore
set_option Elab.async false
set_option linter.all false
set_option maxRecDepth 100000
set_option maxHeartbeats 0
namespace Pr
open PySem PySem.Spec PyProof.Rows L2
/-! ## 1. readings, one step each -/
section
variable {K : PySem.W.Frag} {σ : L2.St} {H : Hp} {Q : VK} {v x y : V} {ta tb tc te : TE} {r r' : R2} {i : Nat} {D : Ends} {QB : Bool → Hp → Prop} {QA : List V → Hp → Prop}
/-- statements -/
theorem g_seq {t u : TS} (q : t { D with nx := u D } σ H) : tSeq t u D σ H := q
end
/-! ## 2. tests whose answer is a proposition -/
/-! ## 3. heaps -/
/-- all that H tracks but M is as it was -/
def Kp (M : List Addr) (H H' : Hp) : Prop := ∀ b o, H b = some o → b ∉ M → H' b = some o
section
variable {M M' : List Addr} {H H1 H2 : Hp} {p : Addr} {o : HO}
theorem Kp.refl : Kp M H H := fun _ _ h _ => h
theorem Kp.trans (a : Kp M H H1) (b : Kp M H1 H2) : Kp M H H2 := fun c u h n => b c u (a c u h n) n
theorem Kp.mono (a : Kp M H H1) (h : ∀ b, b ∈ M → b ∈ M' ∨ H b = none) : Kp M' H H1 := fun c u e n => a c u e fun m => by
  rcases h c m with z | z
  · exact n z
  · rw [z] at e; cases e
theorem Kp.new (a : Kp M H H1) (n : H1 p = none) : Kp M H (upd H1 p o) := fun c u e m => by
  have z := a c u e m
  rw [upd_ne (ne_of_none z n)]
  exact z
theorem Kp.mut (a : Kp M H H1) (m : p ∈ M) : Kp M H (upd H1 p o) := fun c u e n => by
  rw [upd_ne fun z => n (by rw [z]; exact m)]
  exact a c u e n
theorem Kp.own (a : Kp M H H1) (n : H p = none) : Kp M H (upd H1 p o) := fun c u e m => by
  rw [upd_ne (ne_of_none e n)]
  exact a c u e m
theorem Kp.same (h : Same H H1) : Kp M H H1 := fun c u e _ => h c u e
theorem Kp.to_same (h : Kp [] H H1) : Same H H1 := fun c u e => h c u e (by simp)
theorem Kp.free (h : Kp [] H H1) (n : H1 p = none) : H p = none := (Kp.to_same h).free n
theorem Kp.seq {K : PySem.W.Frag} {a : Addr} {xs : List V} (h : Kp M H H1) (n : a ∉ M) (q : SqL K H a xs) : SqL K H1 a xs := by
  rcases q with (q | ⟨ob, q⟩) | q
  · exact .inl (.inl (h _ _ q n))
  · exact .inl (.inr ⟨ob, h _ _ q n⟩)
  · exact .inr q
end
/-! ## 4. lists by names (dicts with text keys) -/
section
variable {α : Type}
def aGet (L : List (Str × α)) (k : Str) : Option α := (L.find? fun e => decide (e.1 = k)).map (·.2)
def enc (g : α → V) (L : List (Str × α)) : List (Key × V) := L.map fun e => (Sum.inr e.1, g e.2)
variable {g : α → V}
theorem key_inr (a b : Str) : decide ((Sum.inr a : Key) = Sum.inr b) = decide (a = b) := key_rr a b
theorem aGet_mem {L : List (Str × α)} {k : Str} {v : α} (h : aGet L k = some v) : (k, v) ∈ L := by
  unfold aGet at h
  obtain ⟨e, he, rfl⟩ := Option.map_eq_some_iff.mp h
  have h1 := List.mem_of_find?_eq_some he
  have h2 : decide (e.1 = k) = true := List.find?_some (p := fun e : Str × α => decide (e.1 = k)) he
  have h3 : e.1 = k := of_decide_eq_true h2
  rw [← h3]
  exact h1
theorem aGet_none {L : List (Str × α)} {k : Str} : aGet L k = none ↔ ∀ v, (k, v) ∉ L := by
  constructor
  · intro h v m
    unfold aGet at h
    have := List.find?_eq_none.mp (Option.map_eq_none_iff.mp h) _ m
    simp at this
  · intro h
    cases e : aGet L k with
    | none => rfl
    | some v => exact absurd (aGet_mem e) (h v)
theorem aGet_of_mem {L : List (Str × α)} {k : Str} {v : α} (nd : (L.map (·.1)).Nodup) (h : (k, v) ∈ L) : aGet L k = some v := by
  induction L with
  | nil => cases h
  | cons e r ih =>
    obtain ⟨n1, n2⟩ := List.nodup_cons.mp (show (e.1 :: r.map (·.1)).Nodup from nd)
    rcases List.mem_cons.mp h with z | z
    · subst z
      simp [aGet, List.find?_cons]
    · have ne : e.1 ≠ k := fun q => n1 (by rw [q]; exact List.mem_map.mpr ⟨_, z, rfl⟩)
      have := ih n2 z
      simp only [aGet, List.find?_cons, decide_eq_false ne] at this ⊢
      exact this
end
/-! ## 5. defs that may raise, by their promises -/
section
variable (P : Program) (w : World) (K : PySem.W.Frag) (mg : Str → Option Value) (base : Heap)
/-- a def by its name -/
structure CalX (k : Nat) (x : Str) (sp : Sp) (dvs : List V) : Prop where
  ex : ∃ (f : Addr) (fd : FuncData) (ps : List Str) (ds : List Value), FnOk P w K mg base (L2.CX P w) k f fd ps sp ∧ mg x = some (.ref f) ∧ PySem.W.keepIn K (.ref f) = true ∧ Binds K fd ps ds ∧ Vals dvs ds
/-- a class by its name -/
structure MakX (k : Nat) (x : Str) (C : Addr) (sp : Sp) (dvs : List V) : Prop where
  ex : ∃ (f : Addr) (fd : FuncData) (ps : List Str) (ds : List Value), Mk K C f ∧ FnOk P w K mg base (L2.CX P w) k f fd ps sp ∧ mg x = some (.ref C) ∧ Binds K fd ps ds ∧ Vals dvs ds
/-- a method of a class -/
structure MetX (k : Nat) (C : Addr) (m : Str) (sp : Sp) (dvs : List V) : Prop where
  ex : ∃ (f : Addr) (fd : FuncData) (ps : List Str) (ds : List Value), Cls K C ∧ Meth K C m f ∧ FnOk P w K mg base (L2.CX P w) k f fd ps sp ∧ Binds K fd ps ds ∧ Vals dvs ds
end
section
variable {X : Cx} {k j : Nat} {x m : Str} {C : Addr} {sp : Sp} {dvs : List V} {E : XK} {p pos apos : Pos} {e o : Expr} {es : List Expr} {t : TA} {ta : TE}
theorem pe_cX (c : CalX X.prog X.w X.K X.mg X.base k x sp dvs) (hr : Room j X.A) (hk : k ≤ j) (hg : Gl X x) (hx : Passes (L2.CX X.prog X.w) X E) (ha : PA X (e :: es) t) (hdb : (x == ("__debug__" : Str)) = false := by decide)
    (he : starEach (e :: es) X.env = (false, eval e X.env) :: starEach es X.env := by rfl) (hpl : (backTo pos (starEach es X.env)).any (·.1) = false := by rfl) : PE X (.Call (.Name x p) (e :: es) [] pos) (tCall sp dvs E t) := by
  obtain ⟨f, fd, ps, ds, F, hm, kp, hb, hd⟩ := c.ex
  exact pe_call F (hr.mono hk) hg hm kp hb hd hx ha hdb he hpl
theorem pe_mkX (c : MakX X.prog X.w X.K X.mg X.base k x C sp dvs) (hr : Room j X.A) (hk : k + 1 ≤ j) (hg : Gl X x) (hx : Passes (L2.CX X.prog X.w) X E) (ha : PA X (e :: es) t) (hdb : (x == ("__debug__" : Str)) = false := by decide)
    (he : starEach (e :: es) X.env = (false, eval e X.env) :: starEach es X.env := by rfl) (hpl : (backTo pos (starEach es X.env)).any (·.1) = false := by rfl) : PE X (.Call (.Name x p) (e :: es) [] pos) (tMake C sp dvs E t) := by
  obtain ⟨f, fd, ps, ds, M, F, hm, hb, hd⟩ := c.ex
  exact pe_make M F (hr.mono hk) hg hm hb hd hx ha hdb he hpl
theorem pe_mkX0 (c : MakX X.prog X.w X.K X.mg X.base k x C sp dvs) (hr : Room j X.A) (hk : k + 1 ≤ j) (hg : Gl X x) (hx : Passes (L2.CX X.prog X.w) X E) (hdb : (x == ("__debug__" : Str)) = false := by decide) : PE X (.Call (.Name x p) [] [] pos) (tMake C sp dvs E tNil) := by
  obtain ⟨f, fd, ps, ds, M, F, hm, hb, hd⟩ := c.ex
  exact pe_make0 M F (hr.mono hk) hg hm hb hd hx hdb
theorem pe_mX {pl : Sem Bool} (c : MetX X.prog X.w X.K X.mg X.base k C m sp dvs) (hr : Room j X.A) (hk : k ≤ j) (hx : Passes (L2.CX X.prog X.w) X E) (he : PE X o ta) (ha : PA X (e :: es) t)
    (hst : starEach (e :: es) X.env = (false, eval e X.env) :: starEach es X.env := by rfl) (hpl : (backTo pos (starEach es X.env)).any (·.1) = false := by rfl)
    (ht : eval (.Call (.Attribute o m apos) (e :: es) [] pos) X.env = (do
      let ov ← eval o X.env
      standAt apos.atName
      let (f, first) ← holding [ov] (getMethod ov m pl)
      callWith pos f first (backTo pos (starEach (e :: es) X.env)) (backToKw pos (keywordEach [] X.env))) := by rfl) :
    PE X (.Call (.Attribute o m apos) (e :: es) [] pos) (tMeth C m sp dvs E ta t) := by
  obtain ⟨f, fd, ps, ds, c1, M, F, hb, hd⟩ := c.ex
  exact pe_meth he c1 M F (hr.mono hk) hb hd hx ha hst hpl ht
theorem pe_mX0 {pl : Sem Bool} (c : MetX X.prog X.w X.K X.mg X.base k C m sp dvs) (hr : Room j X.A) (hk : k ≤ j) (hx : Passes (L2.CX X.prog X.w) X E) (he : PE X o ta)
    (ht : eval (.Call (.Attribute o m apos) [] [] pos) X.env = (do
      let ov ← eval o X.env
      standAt apos.atName
      let (f, first) ← holding [ov] (getMethod ov m pl)
      callWith pos f first (backTo pos (starEach [] X.env)) (backToKw pos (keywordEach [] X.env))) := by rfl) :
    PE X (.Call (.Attribute o m apos) [] [] pos) (tMeth C m sp dvs E ta tNil) := by
  obtain ⟨f, fd, ps, ds, c1, M, F, hb, hd⟩ := c.ex
  exact pe_meth0 he c1 M F (hr.mono hk) hb hd hx ht
end
/-! ## 6. the context of a def that may raise -/
section
variable {P : Program} {w : World} {K : PySem.W.Frag} {mg : Str → Option Value} {base : Heap} {N : List Str} {qual : Str} {scope : Scope} {f : Addr} {cd : Value} {A : Around} {outer : List Env} {s : Shared} {H : Hp} {E : XK}
theorem tkX : Takes (cxOf (L2.CX P w) P w K mg base N qual scope f cd A outer s H E) (fun cls d _ H => E cls d H) := takes_of rfl rfl rfl rfl
theorem paX : Passes (L2.CX P w) (cxOf (L2.CX P w) P w K mg base N qual scope f cd A outer s H E) E := passes_call tkX fun _ _ _ _ z => z
theorem poX : PassesOwn (model P w) (A.deeper (envOfC qual scope s.heap.objs.size f cd)) (cxOf (L2.CX P w) P w K mg base N qual scope f cd A outer s H E).env (cxOf (L2.CX P w) P w K mg base N qual scope f cd A outer s H E).xe := passes_of rfl
end
theorem hU_of {A : Around} {k : Nat} (hr : Room k A) : A.units + 64 < cLine := by
  have := hr.un
  omega
/-! ## 7. the rules with the written part said (K), readings by names -/
section
variable {X : Cx} {K : PySem.W.Frag} {e o a b l value : Expr} {es : List Expr} {f : Str} {pos pos' tpos p : Pos} {ta tv tb te tl : TE} {tg : Expr} {t : TA}
theorem pe_fldK (hK : X.K = K) (he : PE X e ta) (hb : attributeBase e f X.env (eval e X.env) = eval e X.env) : PE X (.Attribute e f pos) (tFld K ta f) := by
  subst hK; exact pe_fld he hb
theorem ps_fldK (hK : X.K = K) (ha : PE X o ta) (hv : PE X value tv) (hs : swapsWith value (some (.Attribute o f pos')) pos.line X.env = pure false) : PS X (.Assign [.Attribute o f pos'] value pos) (sFld K ta tv f) := by
  subst hK; exact ps_fld ha hv hs
theorem ps_fldaugK {op : Operator} {rd : V → V → Hp → VK → Prop} (hK : X.K = K) (ha : PE X o ta) (hv : PE X value tv) (hop : InOp X op rd) : PS X (.AugAssign (.Attribute o f tpos) op value pos) (sFldAug K ta tv rd f) := by
  subst hK; exact ps_fldaug ha hv hop
def tTruK (K : PySem.W.Frag) (ta : TE) : TT := fun σ H Q => ta σ H fun x H' => ∃ k, TruV K x H' k ∧ Q k H'
theorem pt_truthK (hK : X.K = K) (ha : PE X a ta) (he : ∀ whole, isTrue a X.env whole = (do let v ← whole; standAt a.pos; holding [v] (truthy v))) : PT X a (tTruK K ta) := by
  subst hK; exact pt_truth ha he
theorem pe_tupleOfK (hK : X.K = K) (hg : Gl X "tuple") (hm : X.mg "tuple" = none) (ha : PE X a ta) (na : starEach [a] X.env = (false, eval a X.env) :: starEach [] X.env := by rfl) : PE X (.Call (.Name "tuple" p) [a] [] pos) (tThen ta (kTup K)) := by
  subst hK; exact pe_tupleOf hg hm ha na
theorem pi_listK (hK : X.K = K) (hl : PE X l tl) : PI X tg l (iList K tl) := by subst hK; exact pi_list hl
theorem pi_tupK (hK : X.K = K) (hl : PE X l tl) : PI X tg l (iTup K tl) := by subst hK; exact pi_tup hl
def rAbs : List V → Hp → VK → Prop := fun xs H Q => ∃ i, xs = [.int i] ∧ Q (.int (if i < 0 then -i else i)) H
theorem call_absN : CallR X (.builtin "abs") rAbs := call_abs
def rInt1 : List V → Hp → VK → Prop := fun xs H Q => (∃ i, xs = [.int i] ∧ Q (.int i) H) ∨ ∃ k, xs = [.bl k] ∧ Q (.int (if k then 1 else 0)) H
theorem call_int1N : CallR X (.type "int") rInt1 := call_int1
end
/-! ## 8. their readings -/
section
variable {K : PySem.W.Frag} {σ : L2.St} {H : Hp} {Q : VK} {v x y : V} {ta tb tc te td ty tx : TE} {i : Nat} {D : Ends} {QB : Bool → Hp → Prop} {a : Addr} {kvs : List (Key × V)} {k : Key}
end
/-! ## 9. comprehensions -/
section
variable {K : PySem.W.Frag} {σ : L2.St} {H H1 : Hp} {Q : VK} {D a : Addr} {tl td : TE} {tt : TT} {te : TE} {i0 : Nat}
end
/-! ## 10. slices, flat data, order of texts -/
section
variable {K : PySem.W.Frag} {σ : L2.St} {H : Hp} {Q : VK} {a : Addr} {te : TE}
end
/-! ## 11. written dicts -/
section
variable {σ : L2.St} {H : Hp} {Q : VK} {tk tv : TE} {r : List (TE × TE)} {R : List (V × V) → Hp → Prop}
end
/-! ## 12. lists by names whose values stand at addresses -/
section
variable {β : Type}
def pr (L : List (Str × (Addr × β))) : List (Str × β) := L.map fun e => (e.1, e.2.2)
end
section
variable {H : Hp} {Q : VK} {v : V} {a : Addr} {kvs : List (Key × V)} {z : Str}
end
theorem szl {n : Nat} (h : n ≤ 10000) : n ≤ sizeLine := by rw [sizeLine_eq]; omega
/-- what is not of a frame's kinds -/
theorem Kp.get {M : List Addr} {H H' : Hp} {a : Addr} {o : HO} (k : Kp M H H') (h : H a = some o) (n : ∀ b ∈ M, H b ≠ some o) : H' a = some o := k _ _ h fun m => n a m h
/-! ## 13. for -/
section
variable {K : PySem.W.Frag} {σ : L2.St} {H : Hp} {v x y : V} {ta tv te td tl ty : TE} {D : Ends} {g : TG} {tb : TS} {a : Addr} {i0 : Nat} {f : Str}
end
/-! ## 14. more of lists and dicts -/
section
variable {K : PySem.W.Frag} {σ : L2.St} {H : Hp} {Q : VK} {a b : Addr} {td : TE} {xs zs : List V} {i0 : Nat} {D : Ends} {tb : TS}
end
theorem paired_get {α β : Type} {F : α → β → Prop} : ∀ {l : List α} {m : List β} {i : Nat} {y : β}, Paired F l m → m[i]? = some y → ∃ x, l[i]? = some x ∧ F x y
  | _, _, i, _, .nil, h => by simp at h
  | _, _, 0, _, .cons r _, h => ⟨_, rfl, by rw [← Option.some.inj h]; exact r⟩
  | _, _, i + 1, _, .cons _ t, h => paired_get (i := i) t h
/-- a value of the module's top -/
theorem pe_gcI {X : Cx} {x : Str} {v : V} {pos : Pos} (hg : Gl X x) (hm : ∃ u, X.mg x = some u ∧ RelV v u) (hd : (x == ("__debug__" : Str)) = false := by decide) : PE X (.Name x pos) (tC v) := by
  obtain ⟨u, hm, r⟩ := hm
  exact pe_glob hg hm r hd
section
variable {K : PySem.W.Frag} {σ : L2.St} {H : Hp} {Q : VK} {to : TE} {t : TA} {T : String} {r : V → List V → Hp → VK → Prop} {l : Addr} {xs : List V} {x y : V}
end
end Pr

/-! lambdas kept in a list, called later -/
namespace Pr
open PySem PySem.Spec PyProof.Rows L2 LamX NdefX
/-- the object at f is the lambda F with the body e -/
def LmO (f : Addr) (F : NF) (e : Expr) : HO := .ext fun h => ∃ (od : Option Addr) (sl : Array (Option Value)) (pm ctv : Value), h.get? f = some (⟨.type "function", od, .func (PySem.W.kla_fn F.name F.qual F.params e F.scope F.cl pm (.ref F.c) ctv), sl⟩ : Obj)
section
variable {X : Cx} {pins : List (Addr × Obj)} {σ : L2.St} {H : Hp} {s : Shared}
theorem ext_new {H' : Hp} {b : Addr} {o : HO} (e : ExtN H H') (n : H' b = none) : ExtN H (upd H' b o) := fun c u z q => (upd_ne (ne_of_none (e c u z q) n)).trans (e c u z q)
end
/-- what a lambda promises when it is called without arguments: ws tells its captured cells -/
structure LOk (P : Program) (w : World) (K : PySem.W.Frag) (mg : Str → Option Value) (base : Heap) (k : Nat) (f : Addr) (F : NF) (e : Expr) (fr : List Str) (sp : List (Option V) → Hp → VK → XK → Prop) : Prop where
  run : ∀ (A : Around) (outer : List Env) (s : Shared) (H : Hp) (ws : List (Option V)) (Q : VK) (E : XK), Room k A → Env0 P w K mg base A outer s H → H f = some (LmO f F e) → H F.c = some (CodeO F.c F.qual) → CellsAt F.cl fr ws s.heap H → sp ws H Q E →
    codeAny (model P w) A (.call (.ref f) ⟨[], []⟩) (CR (L2.CX P w) outer P w H s Q E) s
section
variable {P : Program} {w : World} {K : PySem.W.Frag} {mg : Str → Option Value} {base : Heap} {k j : Nat} {f : Addr} {F : NF} {e : Expr} {fr N : List Str} {sp : List (Option V) → Hp → VK → XK → Prop}
theorem LOk.mono (o : LOk P w K mg base k f F e fr sp) (h : k ≤ j) : LOk P w K mg base j f F e fr sp := ⟨fun A outer s H ws Q E hr => o.run A outer s H ws Q E (hr.mono h)⟩
end
section
variable {X : Cx} {pins : List (Addr × Obj)} {σ : L2.St} {H : Hp} {s : Shared} {cl : List (Str × Addr)} {fr : List Str} {ws : List (Option V)}
end
end Pr

/-! a list comprehension whose test may lean on the frame's own cells -/
namespace Pr
open PySem PySem.Spec PyProof.Rows L2 LamX NdefX
section
variable {X : Cx}
end
end Pr

open PySem PySem.Spec PyProof.Rows L2
/-! shared lemmas that began in k18's parts -/
namespace Pr
end Pr
namespace Pr
open LamX NdefX
end Pr
namespace Pr
end Pr
namespace Pr
section
variable {H : Hp}
end
end Pr
namespace Pr
end Pr

/-! sum(.. for k, v in d.items()) -/
namespace Pr
open PySem PySem.Spec PyProof.Rows L2
section
variable {prog : Program} {w : World} {A : Around}
end
section
variable {X : Cx}
end
section
variable {prog : Program} {w : World} {A : Around} {E : Value → Shared → Prop} {s : Shared} {cenv : Env} {x a : Str} {t : Tok} {m mg mb : Str → Option Value} {Q : Value → Shared → Prop} {p1 p2 p3 : Pos}
end
end Pr

/-! lambdas whose making changes their own table alone -/
namespace Pr
open PySem PySem.Spec PyProof.Rows L2 LamX NdefX
/-- the table at P has grown, all else stays -/
def OnlyT (P : Addr) (H H' : Hp) : Prop := ∀ b o, H b = some o → b ≠ P → H' b = some o
section
variable {X : Cx} {pins : List (Addr × Obj)} {σ : L2.St} {H : Hp} {s : Shared}
end
end Pr

/-! generator expressions whose elements may call, make, change things -/
namespace Pr
open PySem PySem.Spec PyProof.Rows L2 LamX NdefX
/-- a code object that was made within a run, its table at P -/
def GCode (c P : Addr) : HO := .ext fun h => PySem.W.CodeHd h c P
/-- the table of such a code object, while nobody looks into it -/
def GTabO (P : Addr) : HO := .ext fun h => ∃ ps : Array Value, h.get? P = some { cls := .none, data := .fields ps } ∧ TriplesOk ps.toList
/-- the context of a generator's body -/
abbrev gnC (X : Cx) (s : Shared) (H : Hp) (A' : Around) (cenv : Env) (fp : List Addr) : Cx :=
  { X with A := A', s_0 := s, H_0 := H, env := cenv, outer := X.stack, stack := cenv :: X.stack, ex := fp, fn := fun x => cenv.scope.names.lookup x == some .cell, calm := true, pn := [], xe := fun _ _ => False }
/-- the generator expression's scope -/
structure GnOk (N : List Str) (sc scope : Scope) (own : List (Str × Nat)) : Prop where
  kind : scope.kind = .function
  co : scope.isCoroutine = false
  dot : scope.names.lookup (".0" : Str) = some NameKind.local
  uniq : ∀ y ∈ scope.names, scope.names.lookup y.1 = some y.2
  ix : ∀ p ∈ own, N[p.2]? = some p.1
  free : ∀ y ∈ scope.names, y.2 = .free → sc.names.lookup y.1 = some .cell ∨ sc.names.lookup y.1 = some .free
  own : ∀ y ∈ scope.names, y.2 = .local ∨ y.2 = .cell → y.1 ∈ own.map (·.1) ∨ y.1 ∉ N
def gnB (N : List Str) (sc scope : Scope) (own : List (Str × Nat)) : Bool :=
  decide (scope.kind = .function) && !scope.isCoroutine && decide (scope.names.lookup (".0" : Str) = some NameKind.local) && (scope.names.all fun y => decide (scope.names.lookup y.1 = some y.2)) && (own.all fun p => decide (N[p.2]? = some p.1)) &&
    (scope.names.all fun y => !decide (y.2 = .free) || decide (sc.names.lookup y.1 = some .cell) || decide (sc.names.lookup y.1 = some .free)) && (scope.names.all fun y => (!decide (y.2 = .local) && !decide (y.2 = .cell)) || decide (y.1 ∈ own.map (·.1)) || decide (y.1 ∉ N))
theorem gnOk_by {N : List Str} {sc scope : Scope} {own : List (Str × Nat)} (h : gnB N sc scope own = true) : GnOk N sc scope own := by
  unfold gnB at h
  simp only [Bool.and_eq_true, List.all_eq_true, decide_eq_true_eq, Bool.not_eq_true', decide_eq_false_iff_not, Bool.or_eq_true] at h
  obtain ⟨⟨⟨⟨⟨⟨h1, h2⟩, h4⟩, h5⟩, h6⟩, h7⟩, h8⟩ := h
  refine ⟨h1, h2, h4, h5, h6, fun y hy e => ?_, fun y hy e => ?_⟩
  · rcases h7 y hy with (z | z) | z
    · exact absurd e z
    · exact .inl z
    · exact .inr z
  · rcases h8 y hy with (z | z) | z
    · exact e.elim (fun e => absurd e z.1) fun e => absurd e z.2
    · exact .inl z
    · exact .inr z
section
variable {X : Cx} {pins : List (Addr × Obj)} {σ : L2.St} {H : Hp} {s : Shared}
theorem gn_start {scope : Scope} {own : List (Str × Nat)} {fp : List Addr} {A' : Around} {code : Value} {h' : Heap} {m' : Str → Option Value} {gp : List (Addr × Obj)} {g' : Array GenState} {t' : Nat} (I : Inv X pins σ H s) (ok : GnOk X.N X.env.scope scope own) (hN : X.N.Nodup) (hfp : ∀ b ∈ fp, FpOk X pins H b ∧ b < s.heap.objs.size)
    (hA : A'.frames = some (genEnv scope (cellsFrom (s.heap.objs.size + 1) scope.names (cloFrom X.env.cells scope.names [])) s.heap.objs.size code builtinsNs X.env :: X.stack)) (hh : A'.handled = none) (hns : h'.Ns s.heap.objs.size m') (kp : ∀ b o, s.heap.get? b = some o → h'.get? b = some o) (hg : AllBare g')
    (kc : ∀ b o, b ≠ s.heap.objs.size → (pushCells (s.heap.push { cls := .type "frame", data := .dict #[] }) scope.names).get? b = some o → h'.get? b = some o) (hp : ∀ p ∈ gp, h'.get? p.1 = some p.2 ∧ s.heap.objs.size < p.1 ∧ ∀ v, p.2.data ≠ .cell v) :
    Inv (gnC X s H A' (genEnv scope (cellsFrom (s.heap.objs.size + 1) scope.names (cloFrom X.env.cells scope.names [])) s.heap.objs.size code builtinsNs X.env) fp) gp (wipe σ (own.map (·.2))) H { s with heap := h', gens := g', toks := t' } := by
  have hfree : ∀ y ∈ scope.names, y.2 = .free → ∃ c, X.env.cells.lookup y.1 = some c := fun y hy e => by
    rcases ok.free y hy e with k | k
    · exact I.ok.has _ (.inl k)
    · exact I.ok.has _ (.inr k)
  generalize hcenv : genEnv scope (cellsFrom (s.heap.objs.size + 1) scope.names (cloFrom X.env.cells scope.names [])) s.heap.objs.size code builtinsNs X.env = cenv at hA ⊢
  have hL : cenv.locals = s.heap.objs.size := by rw [← hcenv]; rfl
  have hcl : cenv.cells = cellsFrom (s.heap.objs.size + 1) scope.names (cloFrom X.env.cells scope.names []) := by rw [← hcenv]; rfl
  have hsc : cenv.scope = scope := by rw [← hcenv]; rfl
  rw [← Heap.size_push s.heap { cls := .type "frame", data := .dict #[] }] at hcl
  have cm : ∀ {y c}, (y, c) ∈ cloFrom X.env.cells scope.names [] → X.env.cells.lookup y = some c ∧ c < s.heap.objs.size := fun {y c} hm => by
    rcases cloFrom_mem hm with hm | ⟨h1, rfl⟩
    · cases hm
    · obtain ⟨c, hc⟩ := hfree _ h1 rfl
      rw [hc]
      obtain ⟨w, z⟩ := I.cell _ _ hc
      exact ⟨rfl, z.lt⟩
  have mem : ∀ {y c}, cenv.cells.lookup y = some c → (X.env.cells.lookup y = some c ∧ c < s.heap.objs.size) ∨ (s.heap.objs.size + 1 ≤ c ∧ CellAt h' c none) := fun {y c} e => by
    rw [hcl] at e
    rcases cells_mem (PySem.mem_of_lookup e) with hm | ⟨_, h2, h3⟩
    · exact .inl (cm hm)
    · rw [Heap.size_push] at h2
      obtain ⟨o, q1, q2⟩ := h3
      exact .inr ⟨h2, o, kc c o (Nat.ne_of_gt h2) q1, q2⟩
  have look : ∀ {y}, scope.names.lookup y = some .free → ∃ c, cenv.cells.lookup y = some c ∧ X.env.cells.lookup y = some c := fun {y} hl => by
    have hy : (y, NameKind.free) ∈ scope.names := PySem.mem_of_lookup hl
    obtain ⟨c', e'⟩ := mem_lookup (cells_acc (names := scope.names) (n := (s.heap.push { cls := .type "frame", data := .dict #[] }).objs.size) (cloFrom_has (cells := X.env.cells) (acc := []) hy))
    rw [← hcl] at e'
    refine ⟨c', e', ?_⟩
    rw [hcl] at e'
    rcases cells_mem (PySem.mem_of_lookup e') with hm | ⟨h1, _, _⟩
    · exact (cm hm).1
    · have := ok.uniq _ h1
      rw [hl] at this; cases this
  have okB : (gnC X s H A' cenv fp).Ok := by
    refine ⟨I.ok.mod, by show cenv.scope.kind = _; rw [hsc]; exact ok.kind, by show cenv.globals = _; rw [← hcenv]; exact I.ok.glob, by show cenv.builtins = _; rw [← hcenv]; rfl, by show s.heap.objs.size ≤ cenv.locals; rw [hL]; exact Nat.le_refl _,
      fun y z c e1 e2 => ?_, fun y hy => ?_, fun y c z e => ?_, fun _ => hh, hA, .inr ⟨rfl, ?_⟩, fun b hb => ⟨?_, fun y c e z => ?_⟩, I.bs, Nat.le_trans I.ok.bsz I.sz, fun b o e hb => ?_, fun b hb z => ?_, I.stack, I.stkFree⟩
    · have e1 : cenv.cells.lookup y = some c := e1
      have e2 : cenv.cells.lookup z = some c := e2
      rw [hcl] at e1 e2
      refine cells_inj (fun p hp => ?_) (fun y z c a b => I.ok.inj y z c (cm a).1 (cm b).1) (PySem.mem_of_lookup e1) (PySem.mem_of_lookup e2)
      rw [Heap.size_push]
      exact Nat.lt_succ_of_lt (cm (y := p.1) (c := p.2) hp).2
    · show ∃ c, cenv.cells.lookup y = some c
      have hy : cenv.scope.names.lookup y = some .cell ∨ cenv.scope.names.lookup y = some .free := hy
      rw [hsc] at hy
      rcases hy with hy | hy
      · obtain ⟨c, hm⟩ := cells_has (n := (s.heap.push { cls := .type "frame", data := .dict #[] }).objs.size) (acc := cloFrom X.env.cells scope.names []) (PySem.mem_of_lookup hy)
        obtain ⟨c', e'⟩ := mem_lookup hm
        exact ⟨c', by rw [hcl]; exact e'⟩
      · obtain ⟨c, h1, _⟩ := look hy
        exact ⟨c, h1⟩
    · have z : (cenv.scope.names.lookup y == some NameKind.cell) = true := z
      have z : scope.names.lookup y = some .cell := by rw [hsc] at z; simpa using z
      have e : cenv.cells.lookup y = some c := e
      rw [hcl] at e
      rcases cells_mem (PySem.mem_of_lookup e) with hm | ⟨_, h2, _⟩
      · rcases cloFrom_mem hm with hm | ⟨h1, _⟩
        · cases hm
        · have q := ok.uniq _ h1
          rw [z] at q; cases q
      · rw [Heap.size_push] at h2
        exact Nat.le_of_succ_le h2
    · show cenv.frame = some cenv.locals
      rw [← hcenv]; rfl
    · show b ≠ cenv.locals
      rw [hL]; exact Nat.ne_of_lt (hfp b hb).2
    · have e : cenv.cells.lookup y = some c := e
      rcases mem e with ⟨h1, _⟩ | ⟨h1, _⟩
      · exact (hfp b hb).1.2.2.2.2.1 y c h1 z
      · have h2 : s.heap.objs.size + 1 ≤ b := by rw [← z]; exact h1
        exact absurd (Nat.lt_of_lt_of_le (hfp b hb).2 (Nat.le_of_succ_le h2)) (Nat.lt_irrefl _)
    · rcases (hfp b hb).1.2.2.2.1 with z | z
      · exact I.ok.noex b o e z
      · exact absurd (Nat.lt_of_lt_of_le (Heap.lt_size e) (Nat.le_trans I.ok.bsz z)) (Nat.lt_irrefl _)
    · rcases List.mem_cons.mp (I.stkSub b z) with z | z
      · exact (hfp b hb).1.2.1 z
      · exact (hfp b hb).1.2.2.1 z
  refine ⟨okB, rfl, hg, Un.kept kp, ⟨m', by show Heap.Ns _ cenv.locals _; rw [hL]; exact hns, fun i y av e1 e2 e3 => ?_⟩, fun y c e => ?_, ?_, fun y c e => ?_, fun p hpm => ?_, I.hok.kept kp, by rw [wipe_length]; exact I.len⟩
  · obtain ⟨e2, hne⟩ := wipe_some e2
    have no : ∀ k', scope.names.lookup y = some k' → ¬ (k' = .local ∨ k' = .cell) := fun k' e hh => by
      rcases ok.own _ (PySem.mem_of_lookup e) hh with e' | e'
      · obtain ⟨p, hp, hpy⟩ := List.mem_map.mp e'
        have e3 := ok.ix p hp
        have : p.1 = y := hpy
        rw [this] at e3
        exact hne (List.mem_map.mpr ⟨p, hp, nodup_ix hN e3 e1⟩)
      · exact e' (List.mem_of_getElem? e1)
    have hfr : scope.names.lookup y = some .free := by
      have e3 : Vis cenv.scope y := e3
      rw [hsc] at e3
      rcases e3 with e3 | e3 | e3
      · exact absurd (.inl rfl) (no _ e3)
      · exact absurd (.inr rfl) (no _ e3)
      · exact e3
    obtain ⟨m, hn, hl⟩ := I.loc
    have hvis : Vis X.env.scope y := (ok.free _ (PySem.mem_of_lookup hfr) rfl).elim (fun k => .inr (.inl k)) (fun k => .inr (.inr k))
    obtain ⟨w, r, q⟩ := hl i y av e1 e2 hvis
    refine ⟨w, r, .inr ⟨.inr (by show cenv.scope.names.lookup y = _; rw [hsc]; exact hfr), ?_⟩⟩
    obtain ⟨c, h1, h2⟩ := look hfr
    rcases q with ⟨k, _⟩ | ⟨_, c', e', z⟩
    · have k : X.env.scope.names.lookup y = some .local := k
      rcases ok.free _ (PySem.mem_of_lookup hfr) rfl with k' | k' <;> rw [show X.env.scope.names.lookup y = _ from k'] at k <;> cases k
    · rw [h2] at e'; cases e'
      exact ⟨c, h1, z.keeps kp⟩
  · have e : cenv.cells.lookup y = some c := e
    rcases mem e with ⟨h1, _⟩ | ⟨_, z⟩
    · obtain ⟨w, z⟩ := I.cell y c h1
      exact ⟨w, z.keeps kp⟩
    · exact ⟨_, z⟩
  · show H cenv.locals = none
    rw [hL]; exact I.hok.fresh (Nat.le_refl _)
  · have e : cenv.cells.lookup y = some c := e
    rcases mem e with ⟨h1, _⟩ | ⟨h1, _⟩
    · exact I.freeC y c h1
    · exact I.hok.fresh (Nat.le_of_succ_le h1)
  · have hpm : p ∈ gp := (List.mem_append.mp hpm).elim (fun z => absurd z (by simp)) id
    obtain ⟨q1, q2, q3⟩ := hp p hpm
    refine ⟨q1, I.hok.fresh (Nat.le_of_lt q2), by show p.1 ≠ cenv.locals; rw [hL]; exact Nat.ne_of_gt q2, fun z => ?_, q3⟩
    obtain ⟨_, o, ho, _⟩ := I.stack.mem z
    exact absurd (Nat.lt_trans q2 (Heap.lt_size ho)) (Nat.lt_irrefl _)
end
/-- a value kept in a slot that no name of the body sees -/
def ghost : Option Nat → Value → L2.St → L2.St
  | some i, .ref c, σ => σ.set i (some (.ref c))
  | _, _, σ => σ
theorem ghost_ok {B : Cx} {gp : List (Addr × Obj)} {σ : L2.St} {H : Hp} {s : Shared} (I : Inv B gp σ H s) (ig : Option Nat) (v : Value) (hg : ∀ i, ig = some i → ∀ x, B.N[i]? = some x → ¬ Vis B.env.scope x) : Inv B gp (ghost ig v σ) H s := by
  unfold ghost
  split
  · rename_i i c
    refine ⟨I.ok, I.os, I.bare, I.base, let ⟨m, hn, hl'⟩ := I.loc; ⟨m, hn, fun j x v e1 e2 e3 => ?_⟩, I.cell, I.free, I.freeC, I.pin, I.hok, by rw [List.length_set]; exact I.len⟩
    by_cases hj : i = j
    · subst hj
      exact absurd e3 (hg i rfl x e1)
    · rw [List.getElem?_set_ne hj] at e2
      exact hl' j x v e1 e2 e3
  · exact I
/-! ## the turns -/
/-- how a generator expression's turns go: J its walk, C what its consumer does with an element, F the end -/
def TnW (J : It) (g : TG) (tt : TT) (te : TE) (vs : List Nat) (σw : L2.St) (C : V → Hp → (Hp → Prop) → Prop) (F : Hp → Prop) (W : Nat → Nat → Hp → Prop) : Prop := ∀ i m H, W i m H →
  (J.stop i H ∧ F H) ∨ (J.go i H ∧ ∃ Nx : Hp → Prop, (∀ H', Nx H' → ∃ m', m' < m ∧ W (i + 1) m' H') ∧ ∀ x H', J.yld i H x H' → g x σw H' fun σ2 H2 => wipe σ2 vs = σw ∧ tt σ2 H2 fun b H3 => if b = true then te σ2 H3 fun y H4 => C y H4 Nx else Nx H3)
def GnY (B : Cx) (gp : List (Addr × Obj)) (fp : List Addr) (tn : Nat → Heap → Prop) (σw : L2.St) (C : V → Hp → (Hp → Prop) → Prop) : Protocol := fun n s₀ v s kap =>
  ∃ y G Nx i, RelV y v ∧ Inv B gp σw G s ∧ tn i s.heap ∧ (∀ b ∈ fp, G b = none) ∧ C y G Nx ∧ ∀ s' G', Inv B gp σw G' s' → tn i s'.heap → (∀ b ∈ fp, G' b = none) → Nx G' → kap (.send .none) s'
def GnR (B : Cx) (gp : List (Addr × Obj)) (fp : List Addr) (σw : L2.St) (F : Hp → Prop) : Nat → Shared → Shared → Prop := fun n s₀ s => ∃ G, Inv B gp σw G s ∧ (∀ b ∈ fp, G b = none) ∧ F G
section
variable {B : Cx} {gp : List (Addr × Obj)} {fp : List Addr} {tn : Nat → Heap → Prop} {σw : L2.St} {vs : List Nat} {C : V → Hp → (Hp → Prop) → Prop} {F : Hp → Prop} {J : It} {g : TG} {tt : TT} {te : TE} {W : Nat → Nat → Hp → Prop} {A₁ : Around} {elt tg iter : Expr} {ifs : List Expr} {scope : Scope} {pos : Pos} {it : Addr}
theorem seg_gnLoop (hB : A₁.over (.compLoop (.GeneratorExp elt [⟨tg, iter, ifs, 0⟩] scope pos) 0 (.ref it) .none B.env) [] = B.A) (hc : B.calm = true) (hco : B.env.scope.isCoroutine = false) (hxe : B.xe = fun _ _ => False) (turns : Turn B.prog B.w B.K tg J fp it tn)
    (fpX : ∀ {pins : List (Addr × Obj)} {τ : L2.St} {G : Hp} {z : Shared}, Inv B pins τ G z → (∀ p ∈ pins, p.1 ∉ fp) → (∀ b ∈ fp, G b = none) → ∀ b ∈ fp, FpOk B pins G b) (hgp : ∀ p ∈ gp, p.1 ∉ fp)
    (dg : PG B tg g) (dt : PTs B ifs tt) (de : PE B elt te) (turn : TnW J g tt te vs σw C F W) :
    ∀ (m n i : Nat) (s₀ s : Shared) (G : Hp), m < n → Inv B gp σw G s → tn i s.heap → (∀ b ∈ fp, G b = none) → W i m G →
      Seg (model B.prog B.w) A₁ (fun n s₀ r s₁ => r = .ok .next ∧ GnR B gp fp σw F n s₀ s₁) (GnY B gp fp tn σw C) n s₀ (.compLoop (.GeneratorExp elt [⟨tg, iter, ifs, 0⟩] scope pos) 0 (.ref it) .none B.env)
        ((model B.prog B.w).den (.compLoop (.GeneratorExp elt [⟨tg, iter, ifs, 0⟩] scope pos) 0 (.ref it) .none B.env)) [] s := by
  intro m
  induction m using Nat.strongRecOn with
  | ind m ih =>
    intro n i s₀ s G hn I st no w
    show Seg _ A₁ _ _ _ s₀ _ ((compTurn (.GeneratorExp elt [⟨tg, iter, ifs, 0⟩] scope pos) 0 (.ref it) .none B.env).onRaise (leaving B.env)) [] s
    rw [compTurn_gen, Sem.onRaise_eq_wrap]
    refine seg_bind_wrap (wpAny_standAt ?_)
    rcases turn i m G w with ⟨stop, fin⟩ | ⟨go, Nx, nx, step⟩
    · refine seg_bind_wrap ?_
      rw [hB]
      refine wpAny_mono (turns.done B rfl rfl rfl hc i gp s _ G _ I (fpX I hgp no) st stop) (fun r s1 h => ?_) fun _ _ e => e
      obtain ⟨rfl, I1⟩ := h
      exact seg_end (.ok .next) ⟨rfl, G, I1, no, fin⟩
    · refine seg_bind_wrap ?_
      rw [hB]
      refine wpAny_mono (turns.item B rfl rfl rfl hc i gp s _ G _ I (fpX I hgp no) st go) (fun r s1 h => ?_) fun _ _ e => e
      obtain ⟨u, rfl, h6⟩ := h
      refine seg_bind_wrap ?_
      rw [hB]
      refine wpAny_mono h6 (fun _ s7 h => ?_) fun _ _ e => e
      obtain ⟨x, G7, I7, r7, y7, st7, no7⟩ := h
      have J7 := I7.pinned (fpX I7 hgp no7) (turns.obj _ _ st7)
      refine seg_bind_wrap ?_
      rw [hB]
      refine wpAny_mono (dg.run _ s7 _ G7 x u _ J7 r7 (step x G7 y7)) (fun _ s8 h => ?_) fun _ _ e => by rw [hxe] at e; exact e.elim
      obtain ⟨σ8, G8, I8, same8, q8⟩ := h
      refine seg_bind_wrap ?_
      rw [hB]
      refine wpAny_mono (dt.run _ s8 σ8 G8 _ I8 q8) (fun b s9 h => ?_) fun _ _ e => by rw [hxe] at e; exact e.elim
      obtain ⟨G9, I9, q9⟩ := h
      have pinnedAt : ∀ {z : Shared} {G' : Hp} {τ : L2.St}, Inv B (gp ++ pinsAt fp s7.heap) τ G' z → ∀ b ∈ fp, ∀ o, s7.heap.get? b = some o → z.heap.get? b = some o ∧ G' b = none := fun {z G' τ} Iz b hb o e => by
        have q := Iz.pin (b, o) (List.mem_append_right _ (List.mem_append_right _ (mem_pinsAt hb e)))
        exact ⟨q.1, q.2.1⟩
      have len8 : (σw).length = σ8.length := by rw [← same8, wipe_length]
      have back : ∀ {z : Shared} {G' : Hp}, Inv B (gp ++ pinsAt fp s7.heap) σ8 G' z → Inv B gp σw G' z ∧ tn (i + 1) z.heap ∧ ∀ b ∈ fp, G' b = none := fun {z G'} Iz =>
        ⟨(Iz.unpinned (pins := gp)).weak len8 (fun j v e => (wipe_some (by rw [same8]; exact e)).1), turns.keep _ _ _ st7 fun b hb o e => (pinnedAt Iz b hb o e).1, fun b hb => by
          obtain ⟨o, e, _⟩ := turns.obj _ _ st7 b hb
          exact (pinnedAt Iz b hb o e).2⟩
      cases b with
      | false =>
        simp only [Bool.false_eq_true, if_false] at q9 ⊢
        obtain ⟨m', less, w'⟩ := nx G9 q9
        obtain ⟨b1, b2, b3⟩ := back I9
        exact seg_again rfl (ih m' less n (i + 1) s₀ s9 G9 (Nat.lt_trans less hn) b1 b2 b3 w')
      | true =>
        simp only [if_true] at q9 ⊢
        have hy : ∀ v, yieldOut B.env v = yieldValue v := fun v => by simp only [yieldOut, hco, Bool.false_eq_true, if_false]
        simp only [hy]
        rw [Sem.bind_eq_wrap', Sem.bind_eq_wrap', Sem.wrap_wrap, Sem.wrap_wrap]
        refine seg_wrap ?_
        rw [hB]
        refine wpAny_mono (de.run _ s9 σ8 G9 _ I9 q9) (fun v s10 h => ?_) fun _ _ e => by rw [hxe] at e; exact e.elim
        obtain ⟨y, G10, I10, r10, c10⟩ := h
        obtain ⟨b1, b2, b3⟩ := back I10
        obtain ⟨n, rfl⟩ : ∃ k, n = k + 1 := ⟨n - 1, by omega⟩
        refine seg_at (seg_yield rfl rfl rfl ⟨y, G10, Nx, i + 1, r10, b1, b2, b3, c10, fun s' G' I' st' no' nx' => ?_⟩)
        obtain ⟨m', less, w'⟩ := nx G' nx'
        exact seg_again rfl (ih m' less n (i + 1) s' s' G' (by omega) I' st' no' w')
theorem seg_gnStart (hB : A₁.over (.compLoop (.GeneratorExp elt [⟨tg, iter, ifs, 0⟩] scope pos) 0 (.ref it) .none B.env) [] = B.A) (hc : B.calm = true) (hco : B.env.scope.isCoroutine = false) (hxe : B.xe = fun _ _ => False) (turns : Turn B.prog B.w B.K tg J fp it tn)
    (fpX : ∀ {pins : List (Addr × Obj)} {τ : L2.St} {G : Hp} {z : Shared}, Inv B pins τ G z → (∀ p ∈ pins, p.1 ∉ fp) → (∀ b ∈ fp, G b = none) → ∀ b ∈ fp, FpOk B pins G b) (hgp : ∀ p ∈ gp, p.1 ∉ fp)
    (dg : PG B tg g) (dt : PTs B ifs tt) (de : PE B elt te) (turn : TnW J g tt te vs σw C F W) (m n : Nat) (s₀ s : Shared) (G : Hp) (hn : m < n) (I : Inv B gp σw G s) (st : tn 0 s.heap) (no : ∀ b ∈ fp, G b = none) (w : W 0 m G) :
      Seg (model B.prog B.w) A₁ (fun n s₀ r s₁ => r = .ok .next ∧ GnR B gp fp σw F n s₀ s₁) (GnY B gp fp tn σw C) n s₀ (.compStart (.GeneratorExp elt [⟨tg, iter, ifs, 0⟩] scope pos) 0 (.ref it) .none B.env)
        ((model B.prog B.w).den (.compStart (.GeneratorExp elt [⟨tg, iter, ifs, 0⟩] scope pos) 0 (.ref it) .none B.env)) [] s := by
  have loop := seg_gnLoop hB hc hco hxe turns fpX hgp dg dt de turn m n 0 s₀ s G hn I st no w
  show Seg _ A₁ _ _ _ s₀ _ ((compStart (.GeneratorExp elt [⟨tg, iter, ifs, 0⟩] scope pos) 0 (.ref it) .none B.env).onRaise (leaving B.env)) [] s
  unfold compStart
  rw [Sem.onRaise_eq_wrap]
  show Seg _ A₁ _ _ _ s₀ _ ((ask >>= _).wrap _ _ _ _) [] s
  refine seg_bind_wrap (wpAny_askSetting ?_)
  split
  · exact seg_again rfl loop
  · first
      | exact seg_bind_wrap (wpAny_rule (seg_bind_wrap (wpAny_standAt (seg_bind_wrap (turns.self _ 0 s _ _ st (seg_again rfl loop))))))
      | (refine seg_bind_wrap (wpAny_rule ?_); show Seg _ A₁ _ _ _ s₀ _ ((standAt iter.pos >>= _).wrap _ _ _ _) [] s; exact seg_bind_wrap (wpAny_standAt (seg_bind_wrap (turns.self _ 0 s _ _ st (seg_again rfl loop)))))
end
end Pr

/-! code objects of generator expressions: found again, made -/
namespace Pr
open PySem PySem.Spec PyProof.Rows L2 LamX NdefX
/-- a table whose code objects are known, and their tables -/
def TabK (H : Hp) (P : Addr) : Prop := ∃ ps : Array Value, H P = some (.tbl ps) ∧ TriplesOk ps.toList ∧ ∀ (pos : Pos) (cv : Value), codeAmong pos ps.toList = some cv → ∃ c P', cv = .ref c ∧ H c = some (GCode c P') ∧ H P' = some (GTabO P')
def GrowK (P : Addr) (H H' : Hp) (code : Value) : Prop := TabK H' P ∧ (∃ c P', code = .ref c ∧ H' c = some (GCode c P') ∧ H' P' = some (GTabO P')) ∧ ∀ b o, H b = some o → b ≠ P → H' b = some o
theorem gcode_ne {c P : Addr} (ps : Array Value) : GCode c P ≠ .tbl ps := fun z => by unfold GCode at z; cases z
theorem gtab_ne {P : Addr} (ps : Array Value) : GTabO P ≠ .tbl ps := fun z => by unfold GTabO at z; cases z
theorem gcode_obj {P : Program} {w : World} {H : Hp} {h : Heap} {c Q : Addr} (x : PySem.W.CodeHd h c Q) : ObjOk P w H h c (GCode c Q) := by
  refine ⟨x, ?_, fun h1 h2 y k => ?_⟩
  · obtain ⟨o, _, _, _, _, _, _, _, _, e, _⟩ := x
    exact ⟨o, e⟩
  · obtain ⟨o, vs, file, tf, flags, tg, inF, text, tt, e, r⟩ := y
    exact ⟨o, vs, file, tf, flags, tg, inF, text, tt, k _ e, r⟩
theorem gtab_obj {P : Program} {w : World} {H : Hp} {h : Heap} {Q : Addr} {ps : Array Value} (x : h.get? Q = some { cls := .none, data := .fields ps }) (t : TriplesOk ps.toList) : ObjOk P w H h Q (GTabO Q) :=
  ⟨⟨ps, x, t⟩, ⟨_, x⟩, fun h1 h2 ⟨ps, y, t⟩ k => ⟨ps, k _ y, t⟩⟩
section
variable {X : Cx} {pins : List (Addr × Obj)} {σ : L2.St} {H : Hp} {s : Shared}
/-- the table has grown, new things are known -/
theorem inv_grow {P : Addr} {ps more : Array Value} {h' : Heap} {t' : Nat} {H' : Hp} (I : Inv X pins σ H s) (hP : H P = some (.tbl ps)) (k : ∀ b o, b ≠ P → s.heap.get? b = some o → h'.get? b = some o)
    (hm : h'.get? P = some { cls := .none, data := .fields (ps ++ more) }) (h1 : H' P = some (.tbl (ps ++ more))) (h2 : ∀ b o, H b = some o → b ≠ P → H' b = some o) (h3 : ∀ b o, H' b = some o → H b = none → s.heap.objs.size ≤ b ∧ ObjOk X.prog X.w H' h' b o) :
    Inv X pins σ H' { s with heap := h', toks := t' } := by
  have nP : ∀ b u, H b = some u → (∀ q, u ≠ .tbl q) → b ≠ P := fun b u e q z => by
    rw [z, hP] at e
    exact q ps (Option.some.inj e).symm
  have nN : ∀ b, H b = none → b ≠ P := fun b e z => by
    rw [z, hP] at e
    cases e
  refine I.step (g' := s.gens) (d' := s.drawn) (ch := []) (fun b hb => absurd hb (by simp)) (fun b o _ _ _ e n => k b o (nN b n) e) (fun b o _ _ _ e n => ⟨o.slots, k b o (nN b n) e⟩)
    (fun b o _ e n => ?_) (fun b o _ e => ?_) (fun b xs e => h2 b _ e (nP b _ e (fun q z => by cases z))) (fun b o u e => h2 b _ e (nP b _ e (fun q z => by cases z))) (fun b qs e => ?_) (fun m hn => ?_) (fun b u e => ?_) I.bare
  · cases q : H' b with
    | none => rfl
    | some u => exact absurd (Nat.lt_of_lt_of_le (Heap.lt_size e) (h3 b u q n).1) (Nat.lt_irrefl _)
  · by_cases hb : b = P
    · rw [hb]
      exact ⟨_, hm⟩
    · exact ⟨o, k b o hb e⟩
  · by_cases hb : b = P
    · rw [hb, hP] at e
      cases e
      rw [hb, h1]
      exact ⟨more, rfl⟩
    · rw [h2 b _ e hb]
      exact ⟨#[], by simp⟩
  · obtain ⟨ob, es, ep, ho, r⟩ := hn
    exact ⟨ob, es, ep, k _ ob (nN _ I.free) ho, r⟩
  · by_cases hb2 : b = P
    · rw [hb2, h1] at e
      cases e
      rw [hb2]
      exact hm
    · cases q : H b with
      | none => exact (h3 b u e q).2
      | some u' =>
        have := h2 b u' q hb2
        rw [e] at this
        cases this
        refine (I.hok b u q).stay (fun d v hd q => k d v ?_ q) (fun d q => h2 d _ q (nP d _ q (fun q z => by cases z))) fun d xs q => h2 d _ q (nP d _ q (fun q z => by cases z))
        rcases hd with z | z
        · rw [z]
          exact hb2
        · exact nP d _ z (fun q z => by cases z)
/-- how a generator expression's code object comes -/
structure CodeStep (X : Cx) (gpos : Pos) (scope : Scope) (Pre : Hp → Prop) (Post : Hp → Hp → Value → Prop) : Prop where
  run : ∀ (pins : List (Addr × Obj)) (σ : L2.St) (H : Hp) (s : Shared) (E : Value → Shared → Prop), Inv X pins σ H s → Pre H → wpAny (model X.prog X.w) X.A (genexprCode X.env gpos (X.env.qual ++ "<genexpr>") scope)
    (fun code s' => ∃ H' h' tk, s' = { s with heap := h', toks := tk } ∧ Inv X pins σ H' s' ∧ s.heap.objs.size ≤ h'.objs.size ∧ (∀ b o, H b = none → s.heap.get? b = some o → h'.get? b = some o) ∧ (∀ b, b < s.heap.objs.size → H b = none → H' b = none) ∧ Post H H' code) E s
theorem codeStep_top {P c : Addr} {gpos : Pos} {scope : Scope} (hc : X.env.code = .ref c) (hcd : PySem.W.CodeHd X.base c P) : CodeStep X gpos scope (fun H => TabK H P) (GrowK P) := by
  refine ⟨fun pins σ H s E I ⟨ps, hP, ht, hk⟩ => ?_⟩
  have cd : PySem.W.CodeHd s.heap c P := hcd.keeps fun b u e => I.bk b u e
  have hP2 : s.heap.get? P = some { cls := .none, data := .fields ps } := I.hok P _ hP
  rcases hf : codeAmong gpos ps.toList with _ | cv
  · refine wpAny_genexprCodeX hc (cd.code hP2 ht) (cd.tab hP2) hf ?_
    intro c' h' tk hx hge hlt hco _ htab ⟨P', hgeP, hco', htab'⟩
    have tri : TriplesOk (ps ++ #[rawInt gpos.line, rawInt gpos.col, Value.ref c']).toList := by
      obtain ⟨_, _, _, _, _, _, _, _, _, _, _, _, _, _, _, _, _, _, _, tri, _⟩ := hco
      exact tri
    have Plt : P < s.heap.objs.size := Heap.lt_size hP2
    have ncP : c' ≠ P := Nat.ne_of_gt (Nat.lt_of_lt_of_le Plt hge)
    have nP'P : P' ≠ P := Nat.ne_of_gt (Nat.lt_of_lt_of_le Plt hgeP)
    have cd' := PySem.W.CodeHd.of hco' htab'
    have ncc : c' ≠ P' := by
      obtain ⟨_, _, _, _, _, _, _, _, _, _, _, _, _, _, _, _, _, _, n⟩ := cd'
      exact n
    have fc : H c' = none := I.hok.fresh hge
    have fP : H P' = none := I.hok.fresh hgeP
    have e1 : ∀ b, b ≠ P → b ≠ c' → b ≠ P' → upd (upd (upd H P (.tbl (ps ++ #[rawInt gpos.line, rawInt gpos.col, Value.ref c']))) c' (GCode c' P')) P' (GTabO P') b = H b := fun b h1 h2 h3 => by rw [upd_ne h3, upd_ne h2, upd_ne h1]
    have e2 : upd (upd (upd H P (.tbl (ps ++ #[rawInt gpos.line, rawInt gpos.col, Value.ref c']))) c' (GCode c' P')) P' (GTabO P') P = some (.tbl (ps ++ #[rawInt gpos.line, rawInt gpos.col, Value.ref c'])) := by rw [upd_ne (Ne.symm nP'P), upd_ne (Ne.symm ncP), upd_same]
    have e3 : upd (upd (upd H P (.tbl (ps ++ #[rawInt gpos.line, rawInt gpos.col, Value.ref c']))) c' (GCode c' P')) P' (GTabO P') c' = some (GCode c' P') := by rw [upd_ne ncc, upd_same]
    have e4 : ∀ b o, H b = some o → b ≠ P → upd (upd (upd H P (.tbl (ps ++ #[rawInt gpos.line, rawInt gpos.col, Value.ref c']))) c' (GCode c' P')) P' (GTabO P') b = some o := fun b o e n => by
      rw [e1 b n (fun z => by rw [z, fc] at e; cases e) (fun z => by rw [z, fP] at e; cases e)]
      exact e
    refine ⟨upd (upd (upd H P (.tbl (ps ++ #[rawInt gpos.line, rawInt gpos.col, Value.ref c']))) c' (GCode c' P')) P' (GTabO P'), h', tk, rfl, inv_grow I hP (fun b o n e => hx b o n e) htab.2 e2 e4 (fun b o e n => ?_), Nat.le_trans hge (Nat.le_of_lt hlt), fun b o n e => hx b o (fun z => by rw [z, hP] at n; cases n) e, fun b hb n => ?_, ⟨⟨_, e2, tri, fun pos cv hcv => ?_⟩, ⟨c', P', rfl, e3, upd_same⟩, e4⟩⟩
    · by_cases b1 : b = P'
      · subst b1
        rw [upd_same] at e
        cases e
        exact ⟨hgeP, gtab_obj htab'.2 (by simp [TriplesOk])⟩
      · rw [upd_ne b1] at e
        by_cases b2 : b = c'
        · subst b2
          rw [upd_same] at e
          cases e
          exact ⟨hge, gcode_obj cd'⟩
        · rw [upd_ne b2] at e
          by_cases b3 : b = P
          · rw [b3, hP] at n; cases n
          · rw [upd_ne b3, n] at e; cases e
    · rw [e1 b (fun z => by rw [z, hP] at n; cases n) (fun z => by rw [z] at hb; exact absurd (Nat.lt_of_lt_of_le hb hge) (Nat.lt_irrefl _)) (fun z => by rw [z] at hb; exact absurd (Nat.lt_of_lt_of_le hb hgeP) (Nat.lt_irrefl _))]
      exact n
    · have hl : (ps ++ #[rawInt gpos.line, rawInt gpos.col, Value.ref c']).toList = ps.toList ++ [rawInt gpos.line, rawInt gpos.col, .ref c'] := by simp
      rw [hl] at hcv
      rcases among_app _ ht hcv with z | z
      · obtain ⟨c0, P0, rfl, q1, q2⟩ := hk pos cv z
        exact ⟨c0, P0, rfl, e4 _ _ q1 (fun z => by rw [z, hP] at q1; exact absurd (Option.some.inj q1).symm (gcode_ne ps)), e4 _ _ q2 (fun z => by rw [z, hP] at q2; exact absurd (Option.some.inj q2).symm (gtab_ne ps))⟩
      · exact ⟨c', P', z, e3, upd_same⟩
  · refine wpAny_genexprCode_hit hc (cd.code hP2 ht) hf ?_
    obtain ⟨c0, P0, rfl, q1, q2⟩ := hk _ _ hf
    exact ⟨H, s.heap, s.toks, rfl, I, Nat.le_refl _, fun _ _ _ e => e, fun _ _ n => n, ⟨ps, hP, ht, hk⟩, ⟨c0, P0, rfl, q1, q2⟩, fun _ _ e _ => e⟩
end
end Pr

/-! any, all over such generator expressions -/
namespace Pr
open PySem PySem.Spec PyProof.Rows L2 LamX NdefX
/-! a generator expression's frame, with cells of its own -/
section
variable {M : Model} {A : Around} {E : Value → Shared → Prop} {s : Shared}
theorem gexp_env {scope : Scope} {globals : Addr} {closure : List (Str × Addr)} {it : Value} {qual : Str} {func : Option Addr} {code : Value} {builtins : Addr} {Q : Env → Shared → Prop}
    (hk : scope.kind = .function) (h0 : scope.names.lookup (".0" : Str) = some NameKind.local)
    (hQ : ∀ h', h'.Ns s.heap.objs.size (fun y => if y = ".0" then some it else none) → Heap.SameBut s.heap.objs.size (pushCells (s.heap.push { cls := .type "frame", data := .dict #[] }) scope.names) h' →
      Q (newEnv scope s.heap.objs.size globals (cellsFrom (s.heap.objs.size + 1) scope.names closure) qual func code none builtins) { s with heap := h', toks := s.toks + 1 }) :
    wpAny M A (newFunctionEnv scope globals closure [(".0", it)] qual func code none builtins) Q E s := by
  simp only [newFunctionEnv, Option.isSome_none, Bool.false_eq_true, if_false]
  refine wpAny_bind (wpAny_alloc ?_)
  refine wpAny_bind (wpAny_layCells _ (fun n k c => by cases hkc : k == NameKind.cell <;> simp [hkc]) scope.names closure _ _ ?_)
  rw [show ({ s with heap := s.heap.push { cls := .type "frame", data := .dict #[] } } : Shared).heap.objs.size = s.heap.objs.size + 1 from Heap.size_push ..]
  rw [List.forIn_cons]
  have ns0 : (pushCells (s.heap.push { cls := .type "frame", data := .dict #[] }) scope.names).Ns s.heap.objs.size (fun _ => none) := (Heap.Ns.new s.heap (.type "frame")).keeps (pushCells_keeps _ _)
  refine wpAny_bind (wpAny_bind (wpAny_bind (wpAny_storeName_local h0 ns0 (fun h' hn' hs' => ?_) (by show (scope.kind == .class || _) = _; rw [hk]; rfl))))
  refine wpAny_pure ?_
  simp only [List.forIn_nil]
  exact wpAny_pure (wpAny_pure (hQ h' hn' hs'))
theorem gexp_make {env : Env} {elt target iter : Expr} {ifs : List Expr} {scope : Scope} {cl : List (Str × Addr)} {pos : Pos} {Q : Value → Shared → Prop}
    (hco : scope.isCoroutine = false) (hclos : closureFor scope env = pure cl) (h0 : scope.names.lookup (".0" : Str) = some NameKind.local) (hkind : scope.kind = .function)
    (hroom : A.depth < recursionLimit)
    (h : wpAny M A (eval iter env) (fun xv s₁ => wpAny M A (pyIter xv) (fun it s₂ => s₂.heap.NoLimit ∧
      wpAny M A (genexprCode env pos (env.qual ++ "<genexpr>") scope) (fun code s₃ => wpAny M A (builtinsFor env.globals env.builtins) (fun bi s₄ =>
        ∀ h', h'.Ns s₄.heap.objs.size (fun y => if y = ".0" then some it else none) → Heap.SameBut s₄.heap.objs.size (pushCells (s₄.heap.push { cls := .type "frame", data := .dict #[] }) scope.names) h' →
          Q (.ref h'.objs.size) { s₄ with
            gens := s₄.gens.push (.fresh (.compStart (.GeneratorExp elt [⟨target, iter, ifs, 0⟩] scope pos) 0 it .none (genEnv scope (cellsFrom (s₄.heap.objs.size + 1) scope.names cl) s₄.heap.objs.size code bi env))),
            toks := s₄.toks + 1 + 1 + 1,
            heap := h'.push { cls := .type "generator", data := .fields #[.int s₄.gens.size 0, .str "<genexpr>" (s₄.toks + 1), .str (env.qual ++ "<genexpr>") (s₄.toks + 1 + 1)] } }) E s₃) E s₂) E s₁) E s)
    (hs : ∀ x, genFold iter env x = pure x) :
    wpAny M A (eval (.GeneratorExp elt [⟨target, iter, ifs, 0⟩] scope pos) env) Q E s := by
  rw [eval_GeneratorExp1 _ _ _ _ _ _ _ hco, hclos]
  refine wpAny_bind (wpAny_mono h (fun xv s₁ h₁ => ?_) fun _ _ e => e)
  refine wpAny_bind (wpAny_standAt ?_)
  refine wpAny_bind (wpAny_of_eq (hs xv) ?_)
  refine wpAny_bind (wpAny_holding (wpAny_mono h₁ (fun it s₂ h₂ => ?_) fun _ _ e => e))
  refine wpAny_bind (wpAny_enterFrame h₂.1 hroom ?_)
  refine wpAny_bind (wpAny_pure ?_)
  refine wpAny_bind (wpAny_mono h₂.2 (fun code s₃ h₃ => ?_) fun _ _ e => e)
  refine wpAny_bind (wpAny_mono h₃ (fun bi s₄ h₄ => ?_) fun _ _ e => e)
  refine wpAny_bind (gexp_env hkind h0 (fun h' hn' hs' => ?_))
  simp only [newGenerator, newFields]
  refine wpAny_bind (wpAny_newGen (wpAny_bind (wpAny_mkText (wpAny_bind (wpAny_mkText (wpAny_newObj_type ?_ (by size_fits)))))))
  exact h₄ h' hn' hs'
end
theorem Inv.gens {X : Cx} {pins : List (Addr × Obj)} {σ : L2.St} {H : Hp} {s : Shared} (I : Inv X pins σ H s) {g' : Array GenState} (hb : AllBare g') {t' : Nat} {d' : Drawn} : Inv X pins σ H { s with gens := g', toks := t', drawn := d' } :=
  ⟨I.ok, I.os, hb, I.base, I.loc, I.cell, I.free, I.freeC, I.pin, I.hok, I.len⟩
theorem Inv.setG {X : Cx} {pins : List (Addr × Obj)} {σ : L2.St} {H : Hp} {s : Shared} (I : Inv X pins σ H s) {g : Nat} {x : GenState} (hx : x.bare = true) : Inv X pins σ H (s.setGen g x) := Inv.gens I (allBare_setGen I.bare hx)
/-- the around of a generator expression's body -/
abbrev gnA (A₁ : Around) (elt tg iter : Expr) (ifs : List Expr) (scope : Scope) (pos : Pos) (it : Addr) (cenv : Env) : Around := A₁.over (.compLoop (.GeneratorExp elt [⟨tg, iter, ifs, 0⟩] scope pos) 0 (.ref it) .none cenv) []
section
variable {A₁ : Around} {elt tg iter : Expr} {ifs : List Expr} {scope : Scope} {pos : Pos} {it : Addr} {cenv : Env} {l : List Env} {k : Nat}
theorem gnA_frames (h : A₁.frames = some l) : (gnA A₁ elt tg iter ifs scope pos it cenv).frames = some (cenv :: l) := by
  show pushEnvs [cenv] (pushEnvs [] A₁.frames) = _
  rw [h]
  rfl
theorem gnA_room (h : Room (k + 1) A₁) : Room k (gnA A₁ elt tg iter ifs scope pos it cenv) := by
  refine ⟨h.hd, ?_, ?_⟩
  · have := h.dp
    show A₁.depth + 0 + 1 + 3 * k + 5 < _
    omega
  · have := h.un
    show A₁.units + 0 + _ + 16 * k + 200 < _
    have h2 : (Code.compLoop (.GeneratorExp elt [⟨tg, iter, ifs, 0⟩] scope pos) 0 (.ref it) .none cenv).cUnits ≤ 8 := Nat.le_of_ble_eq_true rfl
    omega
end
/-- a generator expression has been made -/
structure GnMade (X : Cx) (pins : List (Addr × Obj)) (σ : L2.St) (elt tg iter : Expr) (ifs : List Expr) (scope : Scope) (pos : Pos) (Q : It → Hp → Value → Prop) (v : Value) (s : Shared) : Prop where
  ex : ∃ (a g : Nat) (it : Addr) (fp : List Addr) (tn : Nat → Heap → Prop) (J : It) (H2 : Hp) (s4 : Shared) (code : Value) (go : Obj), v = .ref a ∧ Inv X pins σ H2 s4 ∧ Turn X.prog X.w X.K tg J fp it tn ∧ (∀ b ∈ fp, FpOk X pins H2 b ∧ b < s4.heap.objs.size) ∧ tn 0 s.heap ∧
    s.heap.IsGen a g ∧ s.heap.get? a = some go ∧ (∀ v, go.data ≠ .cell v) ∧ s4.heap.objs.size < a ∧ s.gens[g]? = some (.fresh (.compStart (.GeneratorExp elt [⟨tg, iter, ifs, 0⟩] scope pos) 0 (.ref it) .none (genEnv scope (cellsFrom (s4.heap.objs.size + 1) scope.names (cloFrom X.env.cells scope.names [])) s4.heap.objs.size code builtinsNs X.env))) ∧
    AllBare s.gens ∧ s.os = s4.os ∧ (∃ m', s.heap.Ns s4.heap.objs.size m') ∧ (∀ b o, s4.heap.get? b = some o → s.heap.get? b = some o) ∧ (∀ b o, b ≠ s4.heap.objs.size → (pushCells (s4.heap.push { cls := .type "frame", data := .dict #[] }) scope.names).get? b = some o → s.heap.get? b = some o) ∧ Q J H2 code
theorem gn_make {X : Cx} {pins : List (Addr × Obj)} {σ : L2.St} {H : Hp} {s : Shared} {elt tg iter : Expr} {ifs : List Expr} {scope : Scope} {pos : Pos} {own : List (Str × Nat)} {k : Nat} {wi : TI} {K : It → Hp → Value → Prop} {P0 : Addr} {Pre : Hp → Prop} {Post : Hp → Hp → Value → Prop}
    (hr : Room k X.A) (hbm : X.base.BuiltinsAt X.mg P0) (cs : CodeStep X pos scope Pre Post) (ok : GnOk X.N X.env.scope scope own) (hi : PI X tg iter wi) (hs : ∀ v, genFold iter X.env v = pure v) (I : Inv X pins σ H s)
    (h : wi σ H fun J H1 => Pre H1 ∧ ∀ H2 code, Post H1 H2 code → K J H2 code) :
    wpAny (model X.prog X.w) X.A (eval (.GeneratorExp elt [⟨tg, iter, ifs, 0⟩] scope pos) X.env) (GnMade X pins σ elt tg iter ifs scope pos K) X.xe s := by
  have hfree : ∀ y ∈ scope.names, y.2 = .free → ∃ c, X.env.cells.lookup y.1 = some c := fun y hy e => by
    rcases ok.free y hy e with k | k
    · exact I.ok.has _ (.inl k)
    · exact I.ok.has _ (.inr k)
  refine gexp_make ok.co (closure_ok hfree) ok.dot ok.kind (by have := hr.dp; omega) (thn (hi.run pins s σ H _ I h) fun xv s1 h1 => thn h1 fun itv s2 h2 => ?_) hs
  obtain ⟨it, fp, tn, J, H1, rfl, I2, turns, st2, fp2, pre, q⟩ := h2
  refine ⟨I2.nolimit, ?_⟩
  refine wpAny_mono (cs.run pins σ H1 s2 X.xe I2 pre) (fun code s3 h3 => ?_) fun _ _ e => e
  obtain ⟨H2, h3, tk, rfl, I3, hsz, kU, nU, post⟩ := h3
  obtain ⟨bm, bo, e1, e2, e3, e4, e5, e6, e7, e8⟩ := hbm
  refine wpAny_builtinsFor (m := X.mg) (by rw [I3.ok.glob]; exact I3.mod.glob.keeps I3.bk) e1 e2 (I3.bk _ _ e5) e6 e7 e8 ?_
  intro h' hns hsb
  have szh : h3.objs.size + 1 ≤ h'.objs.size := by
    have := pushCells_size scope.names (h3.push { cls := .type "frame", data := .dict #[] })
    rw [Heap.size_push] at this
    rw [hsb.1]
    exact this
  have keep' : ∀ b o, h3.get? b = some o → h'.get? b = some o := fun b o e => hsb.extBut b o (Nat.ne_of_lt (Heap.lt_size e)) (pushCells_keeps _ _ _ _ (Heap.get?_push_of_some _ e))
  have kfp : ∀ b ∈ fp, ∀ o, s2.heap.get? b = some o → h3.get? b = some o := fun b hb o e => kU b o (fp2 b hb).1 e
  refine ⟨h'.objs.size, _, it, fp, tn, J, _, _, code, _, rfl, I3, turns, fun b hb => ?_, ?_, ⟨_, _, _, Heap.get?_push_size _ rfl, rfl, rfl, rfl⟩, Heap.get?_push_size _ rfl, (fun v z => by cases z), ?_, Array.getElem?_push_size .., AllBare.push (g := GenState.fresh _) I3.bare rfl, rfl, ⟨_, hns.push _⟩, fun b o e => Heap.get?_push_of_some _ (keep' b o e), fun b o n e => Heap.get?_push_of_some _ (hsb.extBut b o n e), q _ _ post⟩
  · obtain ⟨o, e, _⟩ := turns.obj _ _ st2 b hb
    obtain ⟨f0, f⟩ := fp2 b hb
    exact ⟨⟨nU b (Heap.lt_size e) f0, f⟩, Heap.lt_size (kfp b hb o e)⟩
  · exact turns.keep _ _ _ st2 fun b hb o e => Heap.get?_push_of_some _ (keep' b o (kfp b hb o e))
  · show h3.objs.size < h'.objs.size
    omega
theorem bool_nf {b : Bool} (h : ¬ b = false) : b = true := by
  cases b
  · exact absurd rfl h
  · rfl
theorem wpAny_truthy_bool {M : Model} {A : Around} {b : Bool} {Q : Bool → Shared → Prop} {E : Value → Shared → Prop} {s : Shared} (h : Q b s) : wpAny M A (truthy (.bool b)) Q E s := wpAny_pure h
theorem gn_any_loop {B : Cx} {gp : List (Addr × Obj)} {fp : List Addr} {tn : Nat → Heap → Prop} {σw : L2.St} {QE : VK} {A : Around} {a g : Nat} {Rr : Result → Shared → Prop} (hh : A.handled = none) (hd : A.depth < recursionLimit)
    (gpa : ∃ (go : Obj) (nm qn : Value), (a, go) ∈ gp ∧ go.cls = .type "generator" ∧ go.data = .fields #[.int g 0, nm, qn] ∧ go.slots = #[]) (hR : ∀ b s' G', Inv B gp σw G' s' → QE (.bl b) G' → Rr (.ok (.ret (.bool b))) s') :
    ∀ (n : Nat) (s : Shared) (G : Hp), Inv B gp σw G s → (∃ gs, s.gens[g]? = some gs ∧ gs.Goes (model B.prog B.w) A.in1.in1 (fun n s₀ r s₁ => r = .ok .next ∧ GnR B gp fp σw (QE (.bl false)) n s₀ s₁) (GnY B gp fp tn σw fun y H4 Nx => ∃ b, y = .bl b ∧ if b = true then QE (.bl true) H4 else Nx H4) n (.send .none) (s.setGen g .running)) →
      codeAny (model B.prog B.w) A (.builtin "any.loop" ⟨[.ref a], []⟩) Rr s := by
  intro n
  obtain ⟨go, nm, qn, gm, g1, g2, g3⟩ := gpa
  induction n with
  | zero =>
    intro s G I ⟨gs, hgs, hgo⟩
    refine codeAny_builtin F.entry_any_loop ?_
    rw [Around.under_plainId F.plain_any_loop _]
    show wpAny _ A.in1 (pyNext (.ref a) >>= _) _ _ s
    have hg : s.heap.IsGen a g := ⟨go, nm, qn, (I.pin (a, go) (List.mem_append_right _ gm)).1, g1, g2, g3⟩
    refine wpAny_bind (wpAny_pyNext_genexpQ (A := A.in1) (P := GnR B gp fp σw (QE (.bl false))) hh I.nolimit hd hg hgs hgo (fun v s₁ gs' hb hv => ?_) (fun s₁ hp h' hk => ?_))
    · obtain ⟨y, G1, Nx, i, ry, I1, st, no, ⟨b, rfl, c⟩, kap⟩ := hv
      obtain rfl : v = Value.bool b := ry
      refine wpAny_bind (wpAny_holding (wpAny_truthy_bool ?_))
      refine wpAny_bind (wpAny_letGo ?_)
      by_cases hs : b = true
      · subst hs
        rw [if_pos rfl] at c
        simp only [if_true, Bool.false_eq_true, if_false]
        exact wpAny_bind (wpAny_rule (wpAny_pure (hR _ _ G1 (Inv.setG I1 hb) c)))
      · rw [if_neg hs] at c
        exact (kap _ _ I1 st no c).elim
    · obtain ⟨G1, I1, no, fin⟩ := hp
      exact wpAny_bind (wpAny_rule (wpAny_pure (hR _ _ G1 ((Inv.setG (g := g) (x := .finished) I1 rfl).kept (t' := s₁.toks) hk) fin)))
  | succ n ih =>
    intro s G I ⟨gs, hgs, hgo⟩
    refine codeAny_builtin F.entry_any_loop ?_
    rw [Around.under_plainId F.plain_any_loop _]
    show wpAny _ A.in1 (pyNext (.ref a) >>= _) _ _ s
    have hg : s.heap.IsGen a g := ⟨go, nm, qn, (I.pin (a, go) (List.mem_append_right _ gm)).1, g1, g2, g3⟩
    have hlt : g < s.gens.size := by
      rcases Nat.lt_or_ge g s.gens.size with z | z
      · exact z
      · rw [Array.getElem?_eq_none z] at hgs; cases hgs
    refine wpAny_bind (GenW.wpAny_gsz (Nat.succ_le_of_lt hlt) (wpAny_pyNext_genexpQ (A := A.in1) (P := GnR B gp fp σw (QE (.bl false))) hh I.nolimit hd hg hgs hgo (fun v s₁ gs' hb hv => ?_) (fun s₁ hp h' hk => ?_)))
    · intro hsz
      rw [GenW.setGen_size] at hsz
      obtain ⟨y, G1, Nx, i, ry, I1, st, no, ⟨b, rfl, c⟩, kap⟩ := hv
      obtain rfl : v = Value.bool b := ry
      refine wpAny_bind (wpAny_holding (wpAny_truthy_bool ?_))
      refine wpAny_bind (wpAny_letGo ?_)
      by_cases hs : b = true
      · subst hs
        rw [if_pos rfl] at c
        simp only [if_true, Bool.false_eq_true, if_false]
        exact wpAny_bind (wpAny_rule (wpAny_pure (hR _ _ G1 (Inv.setG I1 hb) c)))
      · rw [if_neg hs] at c
        obtain rfl : b = false := Bool.eq_false_iff.mpr hs
        simp only [if_true, Bool.false_eq_true, if_false]
        refine wpAny_pure ⟨plainId_quiet F.plain_any_loop _, ih _ G1 (Inv.setG I1 hb) ⟨gs', setGen_at hsz, ?_⟩⟩
        exact kap _ G1 (Inv.setG (g := g) (x := .running) (Inv.setG I1 hb) rfl) st no c
    · intro _
      obtain ⟨G1, I1, no, fin⟩ := hp
      exact wpAny_bind (wpAny_rule (wpAny_pure (hR _ _ G1 ((Inv.setG (g := g) (x := .finished) I1 rfl).kept (t' := s₁.toks) hk) fin)))
theorem gn_all_loop {B : Cx} {gp : List (Addr × Obj)} {fp : List Addr} {tn : Nat → Heap → Prop} {σw : L2.St} {QE : VK} {A : Around} {a g : Nat} {Rr : Result → Shared → Prop} (hh : A.handled = none) (hd : A.depth < recursionLimit)
    (gpa : ∃ (go : Obj) (nm qn : Value), (a, go) ∈ gp ∧ go.cls = .type "generator" ∧ go.data = .fields #[.int g 0, nm, qn] ∧ go.slots = #[]) (hR : ∀ b s' G', Inv B gp σw G' s' → QE (.bl b) G' → Rr (.ok (.ret (.bool b))) s') :
    ∀ (n : Nat) (s : Shared) (G : Hp), Inv B gp σw G s → (∃ gs, s.gens[g]? = some gs ∧ gs.Goes (model B.prog B.w) A.in1.in1 (fun n s₀ r s₁ => r = .ok .next ∧ GnR B gp fp σw (QE (.bl true)) n s₀ s₁) (GnY B gp fp tn σw fun y H4 Nx => ∃ b, y = .bl b ∧ if b = false then QE (.bl false) H4 else Nx H4) n (.send .none) (s.setGen g .running)) →
      codeAny (model B.prog B.w) A (.builtin "all.loop" ⟨[.ref a], []⟩) Rr s := by
  intro n
  obtain ⟨go, nm, qn, gm, g1, g2, g3⟩ := gpa
  induction n with
  | zero =>
    intro s G I ⟨gs, hgs, hgo⟩
    refine codeAny_builtin F.entry_all_loop ?_
    rw [Around.under_plainId F.plain_all_loop _]
    show wpAny _ A.in1 (pyNext (.ref a) >>= _) _ _ s
    have hg : s.heap.IsGen a g := ⟨go, nm, qn, (I.pin (a, go) (List.mem_append_right _ gm)).1, g1, g2, g3⟩
    refine wpAny_bind (wpAny_pyNext_genexpQ (A := A.in1) (P := GnR B gp fp σw (QE (.bl true))) hh I.nolimit hd hg hgs hgo (fun v s₁ gs' hb hv => ?_) (fun s₁ hp h' hk => ?_))
    · obtain ⟨y, G1, Nx, i, ry, I1, st, no, ⟨b, rfl, c⟩, kap⟩ := hv
      obtain rfl : v = Value.bool b := ry
      refine wpAny_bind (wpAny_holding (wpAny_truthy_bool ?_))
      refine wpAny_bind (wpAny_letGo ?_)
      by_cases hs : b = false
      · subst hs
        rw [if_pos rfl] at c
        simp only [if_true, Bool.false_eq_true, if_false]
        exact wpAny_bind (wpAny_rule (wpAny_pure (hR _ _ G1 (Inv.setG I1 hb) c)))
      · rw [if_neg hs] at c
        exact (kap _ _ I1 st no c).elim
    · obtain ⟨G1, I1, no, fin⟩ := hp
      exact wpAny_bind (wpAny_rule (wpAny_pure (hR _ _ G1 ((Inv.setG (g := g) (x := .finished) I1 rfl).kept (t' := s₁.toks) hk) fin)))
  | succ n ih =>
    intro s G I ⟨gs, hgs, hgo⟩
    refine codeAny_builtin F.entry_all_loop ?_
    rw [Around.under_plainId F.plain_all_loop _]
    show wpAny _ A.in1 (pyNext (.ref a) >>= _) _ _ s
    have hg : s.heap.IsGen a g := ⟨go, nm, qn, (I.pin (a, go) (List.mem_append_right _ gm)).1, g1, g2, g3⟩
    have hlt : g < s.gens.size := by
      rcases Nat.lt_or_ge g s.gens.size with z | z
      · exact z
      · rw [Array.getElem?_eq_none z] at hgs; cases hgs
    refine wpAny_bind (GenW.wpAny_gsz (Nat.succ_le_of_lt hlt) (wpAny_pyNext_genexpQ (A := A.in1) (P := GnR B gp fp σw (QE (.bl true))) hh I.nolimit hd hg hgs hgo (fun v s₁ gs' hb hv => ?_) (fun s₁ hp h' hk => ?_)))
    · intro hsz
      rw [GenW.setGen_size] at hsz
      obtain ⟨y, G1, Nx, i, ry, I1, st, no, ⟨b, rfl, c⟩, kap⟩ := hv
      obtain rfl : v = Value.bool b := ry
      refine wpAny_bind (wpAny_holding (wpAny_truthy_bool ?_))
      refine wpAny_bind (wpAny_letGo ?_)
      by_cases hs : b = false
      · subst hs
        rw [if_pos rfl] at c
        simp only [if_true, Bool.false_eq_true, if_false]
        exact wpAny_bind (wpAny_rule (wpAny_pure (hR _ _ G1 (Inv.setG I1 hb) c)))
      · rw [if_neg hs] at c
        obtain rfl : b = true := bool_nf hs
        simp only [if_true, Bool.false_eq_true, if_false]
        refine wpAny_pure ⟨plainId_quiet F.plain_all_loop _, ih _ G1 (Inv.setG I1 hb) ⟨gs', setGen_at hsz, ?_⟩⟩
        exact kap _ G1 (Inv.setG (g := g) (x := .running) (Inv.setG I1 hb) rfl) st no c
    · intro _
      obtain ⟨G1, I1, no, fin⟩ := hp
      exact wpAny_bind (wpAny_rule (wpAny_pure (hR _ _ G1 ((Inv.setG (g := g) (x := .finished) I1 rfl).kept (t' := s₁.toks) hk) fin)))
/-- the reading of any (stop = true), all (stop = false); ig: the slot that keeps the code object for generator expressions within -/
def tAnyG (Pre : Hp → Prop) (Post : Hp → Hp → Value → Prop) (ig : Option Nat) (stop : Bool) (wi : TI) (g : TG) (tt : Value → TT) (te : Value → TE) (vs : List Nat) : TE := fun σ H Q => wi σ H fun J H1 => Pre H1 ∧ ∀ H2 code, Post H1 H2 code →
  ∃ W : Nat → Nat → Hp → Prop, (∃ m, W 0 m H2) ∧ TnW J g (tt code) (te code) vs (ghost ig code (wipe σ vs)) (fun y H4 Nx => ∃ b, y = .bl b ∧ if b = stop then Q (.bl stop) H4 else Nx H4) (Q (.bl (!stop))) W
/-- the body's parts, wherever it runs -/
structure GnParts (X : Cx) (k : Nat) (scope : Scope) (elt tg : Expr) (ifs : List Expr) (g : TG) (tt : Value → TT) (te : Value → TE) : Prop where
  g : ∀ (s : Shared) (H : Hp) (A' : Around) (cl : List (Str × Addr)) (L : Addr) (code : Value) (fp : List Addr), Room k A' → PG (gnC X s H A' (genEnv scope cl L code builtinsNs X.env) fp) tg g
  t : ∀ (s : Shared) (H : Hp) (A' : Around) (cl : List (Str × Addr)) (L : Addr) (code : Value) (fp : List Addr), Room k A' → PTs (gnC X s H A' (genEnv scope cl L code builtinsNs X.env) fp) ifs (tt code)
  e : ∀ (s : Shared) (H : Hp) (A' : Around) (cl : List (Str × Addr)) (L : Addr) (code : Value) (fp : List Addr), Room k A' → PE (gnC X s H A' (genEnv scope cl L code builtinsNs X.env) fp) elt (te code)
section
variable {X : Cx} {pins : List (Addr × Obj)} {σ : L2.St} {elt tg iter : Expr} {ifs : List Expr} {scope : Scope} {gpos : Pos} {own : List (Str × Nat)} {g : TG} {tt : Value → TT} {te : Value → TE} {k : Nat} {ig : Option Nat}
/-- what a consumer needs of a generator expression that was made -/
theorem gn_enter {Q : It → Hp → Value → Prop} {v : Value} {s5 : Shared} {A₁ : Around} (hr : Room (k + 1) A₁) (hfr : A₁.frames = X.A.frames) (hN : X.N.Nodup) (ok : GnOk X.N X.env.scope scope own) (hig : ∀ i, ig = some i → ∀ x, X.N[i]? = some x → ¬ Vis scope x) (pt : GnParts X k scope elt tg ifs g tt te)
    (M : GnMade X pins σ elt tg iter ifs scope gpos Q v s5) :
    ∃ (a gn : Nat) (B : Cx) (gp : List (Addr × Obj)) (fp : List Addr) (tn : Nat → Heap → Prop) (J : It) (H2 : Hp) (gs : GenState) (code : Value), v = .ref a ∧ B.prog = X.prog ∧ B.w = X.w ∧ B.K = X.K ∧ s5.heap.IsGen a gn ∧ (∃ (go : Obj) (nm qn : Value), (a, go) ∈ gp ∧ go.cls = .type "generator" ∧ go.data = .fields #[.int gn 0, nm, qn] ∧ go.slots = #[]) ∧
      Inv B gp (ghost ig code (wipe σ (own.map (·.2)))) H2 s5 ∧ s5.gens[gn]? = some gs ∧ Q J H2 code ∧ (∀ σ' H' s', Inv B gp σ' H' s' → Inv X pins σ H' s') ∧ (∀ b ∈ fp, H2 b = none) ∧ tn 0 s5.heap ∧ ((∀ i h h', tn i h → (∀ b ∈ fp, ∀ o, h.get? b = some o → h'.get? b = some o) → tn i h') ∧ ∀ b ∈ fp, b < s5.heap.objs.size) ∧
      ∀ (C : V → Hp → (Hp → Prop) → Prop) (F : Hp → Prop) (W : Nat → Nat → Hp → Prop), TnW J g (tt code) (te code) (own.map (·.2)) (ghost ig code (wipe σ (own.map (·.2)))) C F W → ∀ (m n : Nat) (s' : Shared) (G : Hp), m < n → Inv B gp (ghost ig code (wipe σ (own.map (·.2)))) G s' → tn 0 s'.heap → (∀ b ∈ fp, G b = none) → W 0 m G →
        gs.Goes (model X.prog X.w) A₁ (fun n s₀ r s₁ => r = .ok .next ∧ GnR B gp fp (ghost ig code (wipe σ (own.map (·.2)))) F n s₀ s₁) (GnY B gp fp tn (ghost ig code (wipe σ (own.map (·.2)))) C) n (.send .none) s' := by
  obtain ⟨a, gn, it, fp, tn, J, H2, s4, code, go, rfl, I4, turns, fp4, st, hgen, hgo, hnc, hlt, hgs, hbare, hos, ⟨m', hns⟩, keep, kc, q⟩ := M
  have hA : (gnA A₁ elt tg iter ifs scope gpos it (genEnv scope (cellsFrom (s4.heap.objs.size + 1) scope.names (cloFrom X.env.cells scope.names [])) s4.heap.objs.size code builtinsNs X.env)).frames = some (genEnv scope (cellsFrom (s4.heap.objs.size + 1) scope.names (cloFrom X.env.cells scope.names [])) s4.heap.objs.size code builtinsNs X.env :: X.stack) := gnA_frames (hfr.trans I4.ok.frames)
  have room := gnA_room (elt := elt) (tg := tg) (iter := iter) (ifs := ifs) (scope := scope) (pos := gpos) (it := it) (cenv := genEnv scope (cellsFrom (s4.heap.objs.size + 1) scope.names (cloFrom X.env.cells scope.names [])) s4.heap.objs.size code builtinsNs X.env) hr
  obtain ⟨h5, g5, d5, t5, o5⟩ := s5
  obtain rfl : o5 = s4.os := hos
  have IB0 := gn_start (X := X) (own := own) (gp := [(a, go)]) (t' := t5) I4 ok hN fp4 hA hr.hd hns keep hbare kc (fun p hp => by rw [List.mem_singleton.mp hp]; exact ⟨hgo, hlt, hnc⟩)
  have IB := ghost_ok (Inv.gens (g' := g5) (t' := t5) (d' := d5) IB0 hbare) ig code hig
  obtain ⟨go', nm, qn, e1, e2, e3, e4⟩ := id hgen
  rw [hgo] at e1
  cases e1
  have gpf : ∀ p ∈ [(a, go)], p.1 ∉ fp := fun p hp hm => by
    rw [List.mem_singleton.mp hp] at hm
    exact absurd (Nat.lt_trans (fp4 a hm).2 hlt) (Nat.lt_irrefl _)
  refine ⟨a, gn, gnC X s4 H2 (gnA A₁ elt tg iter ifs scope gpos it (genEnv scope (cellsFrom (s4.heap.objs.size + 1) scope.names (cloFrom X.env.cells scope.names [])) s4.heap.objs.size code builtinsNs X.env)) (genEnv scope (cellsFrom (s4.heap.objs.size + 1) scope.names (cloFrom X.env.cells scope.names [])) s4.heap.objs.size code builtinsNs X.env) fp, [(a, go)], fp, tn, J, H2, _, code, rfl, rfl, rfl, rfl, hgen, ⟨go, nm, qn, List.mem_singleton.mpr rfl, e2, e3, e4⟩, IB, hgs, q, fun σ' H' s' I' => ?_, fun b hb => (fp4 b hb).1.1, st, ⟨turns.keep, fun b hb => ?_⟩, fun C F W turn m n s' G hn I' st' no w => ?_⟩
  · exact I4.call' (ch := fp) I'.os I'.base I'.hok I'.bare fun b hb => by
      obtain ⟨⟨q1, q2, q3, q4, q5, q6⟩, _⟩ := fp4 b hb
      exact ⟨q4, q2, q5, q6⟩
  · obtain ⟨o, e, _⟩ := turns.obj _ _ st b hb
    exact Heap.lt_size e
  · refine ⟨rfl, ?_⟩
    exact seg_gnStart (B := gnC X s4 H2 (gnA A₁ elt tg iter ifs scope gpos it (genEnv scope (cellsFrom (s4.heap.objs.size + 1) scope.names (cloFrom X.env.cells scope.names [])) s4.heap.objs.size code builtinsNs X.env)) (genEnv scope (cellsFrom (s4.heap.objs.size + 1) scope.names (cloFrom X.env.cells scope.names [])) s4.heap.objs.size code builtinsNs X.env) fp) rfl rfl ok.co rfl turns (fun {pins τ G z} Iz hp no b hb => ⟨no b hb, (Iz.ok.exf b hb).1, Iz.ok.exfs b hb, .inl hb, fun x c e => (Iz.ok.exf b hb).2 x c e, fun p hpm e => hp p ((List.mem_append.mp hpm).elim (fun z => absurd z (by simp)) id) (by rw [e]; exact hb)⟩) gpf
      (pt.g _ _ _ (cellsFrom (s4.heap.objs.size + 1) scope.names (cloFrom X.env.cells scope.names [])) s4.heap.objs.size code fp room) (pt.t _ _ _ (cellsFrom (s4.heap.objs.size + 1) scope.names (cloFrom X.env.cells scope.names [])) s4.heap.objs.size code fp room) (pt.e _ _ _ (cellsFrom (s4.heap.objs.size + 1) scope.names (cloFrom X.env.cells scope.names [])) s4.heap.objs.size code fp room) turn m n s' s' G hn I' st' no w
theorem pe_gnAny {wi : TI} {P0 : Addr} {p pos : Pos} {Pre : Hp → Prop} {Post : Hp → Hp → Value → Prop} (stop : Bool) (nm : Str) (hnm : (nm = "any" ∧ stop = true) ∨ (nm = "all" ∧ stop = false)) (hr : Room (k + 3) X.A) (hgl : Gl X nm) (hm : X.mg nm = none) (hbm : X.base.BuiltinsAt X.mg P0) (cs : CodeStep X gpos scope Pre Post) (hN : X.N.Nodup) (ok : GnOk X.N X.env.scope scope own) (hig : ∀ i, ig = some i → ∀ x, X.N[i]? = some x → ¬ Vis scope x)
    (hi : PI X tg iter wi) (hs : ∀ v, genFold iter X.env v = pure v) (pt : GnParts X k scope elt tg ifs g tt te)
    (hst : starEach [.GeneratorExp elt [⟨tg, iter, ifs, 0⟩] scope gpos] X.env = (false, eval (.GeneratorExp elt [⟨tg, iter, ifs, 0⟩] scope gpos) X.env) :: starEach [] X.env := by rfl) :
    PE X (.Call (.Name nm p) [.GeneratorExp elt [⟨tg, iter, ifs, 0⟩] scope gpos] [] pos) (tAnyG Pre Post ig stop wi g tt te (own.map (·.2))) := by
  refine ⟨fun pins s σ H Q I h => ?_⟩
  have hb : bootBuiltins nm = some (.builtin (if stop = true then "any" else "all")) := by
    rcases hnm with ⟨rfl, rfl⟩ | ⟨rfl, rfl⟩ <;> decide +kernel
  have hd : nm ≠ "__name__" ∧ (nm == ("__debug__" : Str)) = false := by
    rcases hnm with ⟨rfl, rfl⟩ | ⟨rfl, rfl⟩ <;> exact ⟨by decide, by decide⟩
  refine wpAny_Call_Name_kw (ld_blt I hgl hm hb ?_ hd.1 hd.2)
  refine PyProof.Rows.callWith_builtin1 ?_ hst (by rfl)
  rw [hst]
  show wpAny _ _ (spliced ((false, eval (.GeneratorExp elt [⟨tg, iter, ifs, 0⟩] scope gpos) X.env) :: backTo pos (starEach [] X.env))) _ _ s
  refine Calls.spliced_cons (thn (gn_make hr hbm cs ok hi hs I h) fun v s5 M => ?_)
  refine Calls.spliced_nil ?_
  have hr1 : Room (k + 1) X.A.in1.in1 := ⟨hr.hd, by have := hr.dp; show X.A.depth + 3 * (k + 1) + 5 < _; omega, by have := hr.un; show X.A.units + 1 + 1 + 16 * (k + 1) + 200 < _; omega⟩
  obtain ⟨a, gn, B, gp, fp, tn, J, H2, gs, code, rfl, hp, hw, hK, hgen, gpa, IB, hgs, ⟨W, ⟨m0, w0⟩, turn⟩, back, no, st, _, goes⟩ := gn_enter (k := k) (A₁ := X.A.in1.in1) hr1 rfl hN ok hig pt M
  rw [← hp, ← hw] at goes ⊢
  have hdep : X.A.depth < recursionLimit := by have := hr.dp; omega
  have start := goes _ _ W turn m0 (m0 + 1) (s5.setGen gn .running) H2 (Nat.lt_succ_self _) (Inv.setG (g := gn) (x := .running) IB rfl) st no w0
  rcases hnm with ⟨rfl, rfl⟩ | ⟨rfl, rfl⟩
  · show wpAny _ _ (call (.builtin "any") [.ref a]) _ _ _
    refine call_function_tree F.kind_any F.plain_any F.entry_any (F.args_any1 _) ?_
    unfold Builtin.«any»
    refine wpAny_bind (m := oneArg "any" _) (wpAny_pure ?_)
    refine wpAny_bind (wpAny_pyIter_gen hgen ?_)
    refine wpAny_pure ⟨plainId_quiet F.plain_any_loop _, gn_any_loop hr.hd hdep gpa (fun b s' G' I' q => ?_) (m0 + 1) _ H2 IB ⟨gs, hgs, start⟩⟩
    exact ⟨.bl b, G', back _ _ _ I', rfl, q⟩
  · show wpAny _ _ (call (.builtin "all") [.ref a]) _ _ _
    refine call_function_tree F.kind_all F.plain_all F.entry_all (F.args_all1 _) ?_
    unfold Builtin.«all»
    refine wpAny_bind (m := oneArg "all" _) (wpAny_pure ?_)
    refine wpAny_bind (wpAny_pyIter_gen hgen ?_)
    refine wpAny_pure ⟨plainId_quiet F.plain_all_loop _, gn_all_loop hr.hd hdep gpa (fun b s' G' I' q => ?_) (m0 + 1) _ H2 IB ⟨gs, hgs, start⟩⟩
    exact ⟨.bl b, G', back _ _ _ I', rfl, q⟩
end
end Pr

/-! tuple over such generator expressions -/
namespace Pr
open PySem PySem.Spec PyProof.Rows L2 LamX NdefX
open PySem.AutoSeq1 (wpAny_loadPart')
def CTup (S : Addr) : V → Hp → (Hp → Prop) → Prop := fun y H4 Nx => ∃ acc, H4 S = some (.lst acc) ∧ acc.length < sizeLine ∧ Nx (upd H4 S (.lst (acc ++ [y])))
theorem gn_ext_loop {B : Cx} {gp : List (Addr × Obj)} {fp : List Addr} {tn : Nat → Heap → Prop} {σw : L2.St} {Fe : Hp → Prop} {A : Around} {a g S : Nat} {res : Value} {Rr : Result → Shared → Prop} (hh : A.handled = none) (hd : A.depth < recursionLimit)
    (htn : ∀ i h h', tn i h → (∀ b ∈ fp, ∀ o, h.get? b = some o → h'.get? b = some o) → tn i h') (hSf : S ∉ fp)
    (gpa : ∃ (go : Obj) (nm qn : Value), (a, go) ∈ gp ∧ go.cls = .type "generator" ∧ go.data = .fields #[.int g 0, nm, qn] ∧ go.slots = #[]) (hR : ∀ s' G', Inv B gp σw G' s' → Fe G' → Rr (.ok (.ret res)) s') :
    ∀ (n : Nat) (s : Shared) (G : Hp), Inv B gp σw G s → (∃ gs, s.gens[g]? = some gs ∧ gs.Goes (model B.prog B.w) A.in1.in1 (fun n s₀ r s₁ => r = .ok .next ∧ GnR B gp fp σw Fe n s₀ s₁) (GnY B gp fp tn σw (CTup S)) n (.send .none) (s.setGen g .running)) →
      codeAny (model B.prog B.w) A (.builtin "list.extend.loop" ⟨[.ref S, .ref a, res], []⟩) Rr s := by
  intro n
  obtain ⟨go, nm, qn, gm, g1, g2, g3⟩ := gpa
  induction n with
  | zero =>
    intro s G I ⟨gs, hgs, hgo⟩
    refine codeAny_builtin F.entry_extend_loop ?_
    rw [Around.under_plainId F.plain_extend_loop _]
    show wpAny _ A.in1 (pyNext (.ref a) >>= _) _ _ s
    have hg : s.heap.IsGen a g := ⟨go, nm, qn, (I.pin (a, go) (List.mem_append_right _ gm)).1, g1, g2, g3⟩
    refine wpAny_bind (wpAny_pyNext_genexpQ (A := A.in1) (P := GnR B gp fp σw Fe) hh I.nolimit hd hg hgs hgo (fun v s₁ gs' hb hv => ?_) (fun s₁ hp h' hk => ?_))
    · obtain ⟨y, G1, Nx, i, ry, I1, st, no, ⟨acc, hS, hz, nx⟩, kap⟩ := hv
      have I2 := Inv.setG (g := g) I1 hb
      obtain ⟨hz', its, c, ri, e⟩ := I2.hok S _ hS
      have hl := ri.length
      show wpAny _ A.in1 (updateSeq S (·.push v) >>= _) _ _ _
      refine wpAny_bind (wpAny_updateSeq e rfl (wpAny_pure ⟨plainId_quiet F.plain_extend_loop _, ?_⟩) (by rw [List.size_toArray]; omega) (by show (its.toArray.push v).size ≤ sizeLine + 1; rw [Array.size_push, List.size_toArray]; omega))
      have I3 := I2.write (t' := (s₁.setGen g gs').toks) (o := .lst (acc ++ [y])) (by rw [hS]; trivial) (.inl rfl) (fun b u hb q => (Heap.get?_update_other _ (Obj.mapSeq (·.push v)) (Ne.symm hb)).trans q) ⟨_, Heap.get?_update_self (Obj.mapSeq (·.push v)) e rfl⟩
        ⟨by rw [List.length_append]; exact hz, its ++ [v], c + 1, ri.append (.cons ry .nil), by rw [Heap.get?_update_self (Obj.mapSeq (·.push v)) e rfl]; simp [Obj.mapSeq]⟩
      exact (kap _ _ I3 (htn _ _ _ st fun b hb o q => (Heap.get?_update_other _ (Obj.mapSeq (·.push v)) (fun z : S = b => hSf (by rw [z]; exact hb))).trans q) (fun b hb => by rw [upd_ne (fun z => hSf (by rw [← z]; exact hb))]; exact no b hb) nx).elim
    · obtain ⟨G1, I1, no, fin⟩ := hp
      exact wpAny_pure (hR _ G1 ((Inv.setG (g := g) (x := .finished) I1 rfl).kept (t' := s₁.toks) hk) fin)
  | succ n ih =>
    intro s G I ⟨gs, hgs, hgo⟩
    refine codeAny_builtin F.entry_extend_loop ?_
    rw [Around.under_plainId F.plain_extend_loop _]
    show wpAny _ A.in1 (pyNext (.ref a) >>= _) _ _ s
    have hg : s.heap.IsGen a g := ⟨go, nm, qn, (I.pin (a, go) (List.mem_append_right _ gm)).1, g1, g2, g3⟩
    have hlt : g < s.gens.size := by
      rcases Nat.lt_or_ge g s.gens.size with z | z
      · exact z
      · rw [Array.getElem?_eq_none z] at hgs; cases hgs
    refine wpAny_bind (GenW.wpAny_gsz (Nat.succ_le_of_lt hlt) (wpAny_pyNext_genexpQ (A := A.in1) (P := GnR B gp fp σw Fe) hh I.nolimit hd hg hgs hgo (fun v s₁ gs' hb hv => ?_) (fun s₁ hp h' hk => ?_)))
    · intro hsz
      rw [GenW.setGen_size] at hsz
      obtain ⟨y, G1, Nx, i, ry, I1, st, no, ⟨acc, hS, hz, nx⟩, kap⟩ := hv
      have I2 := Inv.setG (g := g) I1 hb
      obtain ⟨hz', its, c, ri, e⟩ := I2.hok S _ hS
      have hl := ri.length
      show wpAny _ A.in1 (updateSeq S (·.push v) >>= _) _ _ _
      have I3 := I2.write (t' := (s₁.setGen g gs').toks) (o := .lst (acc ++ [y])) (by rw [hS]; trivial) (.inl rfl) (fun b u hb q => (Heap.get?_update_other _ (Obj.mapSeq (·.push v)) (Ne.symm hb)).trans q) ⟨_, Heap.get?_update_self (Obj.mapSeq (·.push v)) e rfl⟩
        ⟨by rw [List.length_append]; exact hz, its ++ [v], c + 1, ri.append (.cons ry .nil), by rw [Heap.get?_update_self (Obj.mapSeq (·.push v)) e rfl]; simp [Obj.mapSeq]⟩
      refine wpAny_bind (wpAny_updateSeq e rfl (wpAny_pure ⟨plainId_quiet F.plain_extend_loop _, ih _ _ I3 ⟨gs', setGen_at hsz, ?_⟩⟩) (by rw [List.size_toArray]; omega) (by show (its.toArray.push v).size ≤ sizeLine + 1; rw [Array.size_push, List.size_toArray]; omega))
      exact kap _ _ (Inv.setG (g := g) (x := .running) I3 rfl) (htn _ _ _ st fun b hb o q => (Heap.get?_update_other _ (Obj.mapSeq (·.push v)) (fun z : S = b => hSf (by rw [z]; exact hb))).trans q) (fun b hb => by rw [upd_ne (fun z => hSf (by rw [← z]; exact hb))]; exact no b hb) nx
    · intro _
      obtain ⟨G1, I1, no, fin⟩ := hp
      exact wpAny_pure (hR _ G1 ((Inv.setG (g := g) (x := .finished) I1 rfl).kept (t' := s₁.toks) hk) fin)
/-- the reading of tuple -/
def tTupG (Pre : Hp → Prop) (Post : Hp → Hp → Value → Prop) (ig : Option Nat) (wi : TI) (g : TG) (tt : Value → TT) (te : Value → TE) (vs : List Nat) : TE := fun σ H Q => wi σ H fun J H1 => Pre H1 ∧ ∀ H2 code, Post H1 H2 code → ∀ D, H2 D = none →
  ∃ W : Nat → Nat → Hp → Prop, (∃ m, W 0 m (upd H2 D (.lst []))) ∧ TnW J g (tt code) (te code) vs (ghost ig code (wipe σ vs)) (CTup D) (fun H4 => ∃ xs, H4 D = some (.lst xs) ∧ ∀ p, H4 p = none → Q (.ref p) (upd H4 p (.tup xs))) W
section
variable {X : Cx} {pins : List (Addr × Obj)} {σ : L2.St} {elt tg iter : Expr} {ifs : List Expr} {scope : Scope} {gpos : Pos} {own : List (Str × Nat)} {g : TG} {tt : Value → TT} {te : Value → TE} {k : Nat} {ig : Option Nat}
theorem gn_collect {B : Cx} {gp : List (Addr × Obj)} {fp : List Addr} {tn : Nat → Heap → Prop} {σw : L2.St} {Fe : Hp → Prop} {A : Around} {a gn : Nat} {Q : List Value → Shared → Prop} {E : Value → Shared → Prop} {s : Shared} {H2 : Hp} {gs : GenState} (hh : A.handled = none) (hd : A.depth < recursionLimit)
    (htn : ∀ i h h', tn i h → (∀ b ∈ fp, ∀ o, h.get? b = some o → h'.get? b = some o) → tn i h') (hfp : ∀ b ∈ fp, b < s.heap.objs.size) (hgen : s.heap.IsGen a gn)
    (gpa : ∃ (go : Obj) (nm qn : Value), (a, go) ∈ gp ∧ go.cls = .type "generator" ∧ go.data = .fields #[.int gn 0, nm, qn] ∧ go.slots = #[]) (IB : Inv B gp σw H2 s) (hgs : s.gens[gn]? = some gs) (st : tn 0 s.heap) (no : ∀ b ∈ fp, H2 b = none)
    (start : ∃ n, ∀ s', Inv B gp σw (upd H2 s.heap.objs.size (.lst [])) s' → tn 0 s'.heap → (∀ b ∈ fp, upd H2 s.heap.objs.size (.lst []) b = none) → gs.Goes (model B.prog B.w) A.in1.in1 (fun n s₀ r s₁ => r = .ok .next ∧ GnR B gp fp σw Fe n s₀ s₁) (GnY B gp fp tn σw (CTup s.heap.objs.size)) n (.send .none) s')
    (hF : ∀ G', Fe G' → ∃ xs, G' s.heap.objs.size = some (.lst xs)) (hQ : ∀ s' G' xs its, Inv B gp σw G' s' → Fe G' → G' s.heap.objs.size = some (.lst xs) → Vals xs its → its.length ≤ sizeLine → Q its s') : wpAny (model B.prog B.w) A (collect (.ref a)) Q E s := by
  have hlta : a < s.heap.objs.size := by
    obtain ⟨o, _, _, e, _⟩ := hgen
    exact Heap.lt_size e
  have hSI : s.heap.objs.size ≠ a := Nat.ne_of_gt hlta
  have hSf : s.heap.objs.size ∉ fp := fun hm => Nat.lt_irrefl _ (hfp _ hm)
  unfold collect
  refine wpAny_bind (wpAny_runValue (codeAny_builtin F.entry_proto_collect ?_))
  rw [Around.under_plainId F.plain_proto_collect _]
  show wpAny _ A.in1 (newList [] >>= fun l => again (.builtin "list.__iadd__" ⟨[l, .ref a], []⟩)) _ _ s
  refine wpAny_bind (wpAny_newObj_type ?_)
  refine wpAny_pure ⟨plainId_quiet F.plain_list_iadd _, codeAny_builtin F.entry_list_iadd ?_⟩
  rw [Around.under_plainId F.plain_list_iadd _]
  have hg1 : (s.heap.push { cls := .type "list", data := .seq ([] : List Value).toArray }).IsGen a gn := hgen.push _
  show wpAny _ A.in1 (Builtin.List.listExtendWith (.ref s.heap.objs.size) (.ref a) (.ref s.heap.objs.size)) _ _ _
  unfold Builtin.List.listExtendWith
  refine wpAny_bind (wpAny_typeOf (Heap.IsGen.typeIs (s := { s with heap := _ }) hg1) ?_)
  have h1 : Builtin.List.listSameRef (.ref s.heap.objs.size) (.ref a) = false := by simp [Builtin.List.listSameRef, hSI]
  have h2 : (Value.type "generator" == Value.type "list") = false := by decide
  have h3 : (Value.type "generator" == Value.type "tuple") = false := by decide
  simp only [h1, h2, h3, Bool.or_false, Bool.false_eq_true, if_false]
  refine wpAny_bind (wpAny_pyIter_gen (s := { s with heap := _ }) hg1 ?_)
  refine wpAny_bind (wpAny_holding ?_)
  unfold Builtin.List.listLengthHint
  refine wpAny_bind (wpAny_specialOf (Heap.IsGen.typeIs (s := { s with heap := _ }) hg1) F.gen_no_len ?_)
  show wpAny _ A.in1 (specialOf (Value.ref a) (Str.ofString "__length_hint__") >>= _) _ _ _
  refine wpAny_bind (wpAny_specialOf (Heap.IsGen.typeIs (s := { s with heap := _ }) hg1) F.gen_no_hint ?_)
  refine wpAny_pure ?_
  show wpAny _ A.in1 (rule "list.extend.makes-room" >>= fun _ => Builtin.List.listTouch (.ref s.heap.objs.size) >>= fun _ =>
    again (.builtin "list.extend.loop" ⟨[.ref s.heap.objs.size, .ref a, .ref s.heap.objs.size], []⟩)) _ _ _
  refine wpAny_bind (wpAny_rule ?_)
  have hS₁ : (s.heap.push { cls := .type "list", data := .seq ([] : List Value).toArray }).get? s.heap.objs.size = some { cls := .type "list", data := .seq ([] : List Value).toArray } := Heap.get?_push_size _ rfl
  refine wpAny_bind ?_
  show wpAny _ A.in1 (updateSeq s.heap.objs.size (·.push .none) >>= fun _ => updateSeq s.heap.objs.size (·.pop)) _ _ _
  refine wpAny_bind (wpAny_updateSeq hS₁ rfl ?_)
  have hS₂ := Heap.get?_update_self (Obj.mapSeq (·.push Value.none)) hS₁ rfl
  refine wpAny_updateSeq hS₂ rfl ?_
  have hS₃ := Heap.get?_update_self (Obj.mapSeq (·.pop)) hS₂ rfl
  have oth : ∀ b o, b ≠ s.heap.objs.size → (s.heap.push { cls := .type "list", data := .seq ([] : List Value).toArray }).get? b = some o →
      (((s.heap.push { cls := .type "list", data := .seq ([] : List Value).toArray }).update s.heap.objs.size (Obj.mapSeq (·.push Value.none))).update s.heap.objs.size (Obj.mapSeq (·.pop))).get? b = some o :=
    fun b o hb e => (Heap.get?_update_other _ _ (Ne.symm hb)).trans ((Heap.get?_update_other _ _ (Ne.symm hb)).trans e)
  have keep : ∀ b o, s.heap.get? b = some o → (((s.heap.push { cls := .type "list", data := .seq ([] : List Value).toArray }).update s.heap.objs.size (Obj.mapSeq (·.push Value.none))).update s.heap.objs.size (Obj.mapSeq (·.pop))).get? b = some o :=
    fun b o e => oth b o (Nat.ne_of_lt (Heap.lt_size e)) (Heap.get?_push_of_some _ e)
  have I1 := IB.laid (t' := s.toks) (o := .lst []) keep (Nat.le_refl _) ⟨Nat.zero_le _, [], _, .nil, hS₃⟩
  obtain ⟨n, start⟩ := start
  refine wpAny_pure ⟨plainId_quiet F.plain_extend_loop _, gn_ext_loop hh hd htn hSf gpa (fun s' G' I' f' => ?_) n _ _ I1 ⟨gs, hgs, start _ (Inv.setG (g := gn) (x := .running) I1 rfl) (htn _ _ _ st fun b _ o e => keep b o e) fun b hb => ?_⟩⟩
  · obtain ⟨xs, hS⟩ := hF G' f'
    obtain ⟨hz, its, c, ri, e⟩ := I'.hok _ _ hS
    show wpAny _ A (load s.heap.objs.size >>= _) _ _ s'
    refine wpAny_bind (wpAny_load e ?_)
    refine wpAny_pure ?_
    have := hQ s' G' xs its I' f' hS ri (by rw [← ri.length]; exact hz)
    simpa using this
  · rw [upd_ne (fun z => hSf (by rw [← z]; exact hb))]
    exact no b hb
theorem col_of {M : Model} {A : Around} {a : Addr} {Q0 Q : List Value → Shared → Prop} {E : Value → Shared → Prop} {s : Shared} (h : wpAny M A (collect (.ref a)) Q0 (fun _ _ => False) s) (hQ : ∀ v s', Q0 v s' → Q v s') : wpAny M A (collect (.ref a)) Q E s := wpAny_mono h hQ fun _ _ z => z.elim
theorem code_tuple_new_g {prog : Program} {w : World} {A : Around} {E : Value → Shared → Prop} {s : Shared} {a : Addr} {Q₁ : Value → Shared → Prop} (hTI : s.TypeIs (.ref a) "generator")
    (hcol : wpAny (model prog w) A.in1 (collect (.ref a)) (fun its s' => its.length ≤ sizeLine ∧ Q₁ (.ref s'.heap.objs.size) { s' with heap := s'.heap.push { cls := .type "tuple", data := .seq its.toArray } }) (fun _ _ => False) s) :
    codeAny (model prog w) A (.call (.builtin "tuple.__new__") ⟨[.type "tuple", .ref a], []⟩) (wants Q₁ E) s := by
  refine codeAny_of_tree ?_
  show wpAny _ A.in1 (do checkBuiltinCall "tuple.__new__" ⟨[.type "tuple", .ref a], []⟩; again (.builtin "tuple.__new__" ⟨[.type "tuple", .ref a], []⟩)) _ _ s
  refine wpAny_bind (wpAny_of_eq (F.newCall_tuple_1 _) (wpAny_pure ⟨plainId_quiet F.plain_tuple_new _, codeAny_builtin F.entry_tuple_new ?_⟩))
  rw [Around.under_plainId F.plain_tuple_new _]
  have hsub := sub_tuple_self
  have hinit := init_tuple_lookup
  have hmh := madeHere_tuple
  wp_walk using wpAny_typeOf hTI, col_of hcol
  intro its s' hz
  show wpAny _ _ (Builtin.Tuple.tupleExact its.toArray >>= fun v => ret v) _ _ _
  unfold Builtin.Tuple.tupleExact
  refine wpAny_bind (wpAny_newObj_type ?_ (by show its.toArray.size ≤ sizeLine; rw [List.size_toArray]; exact hz.1))
  exact wpAny_pure hz.2
theorem pe_gnTup {wi : TI} {P0 : Addr} {p pos : Pos} {Pre : Hp → Prop} {Post : Hp → Hp → Value → Prop} (hr : Room (k + 3) X.A) (hgl : Gl X "tuple") (hm : X.mg "tuple" = none) (hbm : X.base.BuiltinsAt X.mg P0) (cs : CodeStep X gpos scope Pre Post) (hN : X.N.Nodup) (ok : GnOk X.N X.env.scope scope own) (hig : ∀ i, ig = some i → ∀ x, X.N[i]? = some x → ¬ Vis scope x)
    (hi : PI X tg iter wi) (hs : ∀ v, genFold iter X.env v = pure v) (pt : GnParts X k scope elt tg ifs g tt te)
    (hst : starEach [.GeneratorExp elt [⟨tg, iter, ifs, 0⟩] scope gpos] X.env = (false, eval (.GeneratorExp elt [⟨tg, iter, ifs, 0⟩] scope gpos) X.env) :: starEach [] X.env := by rfl) :
    PE X (.Call (.Name "tuple" p) [.GeneratorExp elt [⟨tg, iter, ifs, 0⟩] scope gpos] [] pos) (tTupG Pre Post ig wi g tt te (own.map (·.2))) := by
  refine ⟨fun pins s σ H Q I h => ?_⟩
  refine wpAny_Call_Name_kw (ld_blt I hgl hm (show bootBuiltins "tuple" = some (.type "tuple") by decide +kernel) ?_ (by decide) (by decide))
  refine PyProof.Rows.callWith_type1 ?_ hst (by rfl)
  rw [hst]
  show wpAny _ _ (spliced ((false, eval (.GeneratorExp elt [⟨tg, iter, ifs, 0⟩] scope gpos) X.env) :: backTo pos (starEach [] X.env))) _ _ s
  refine Calls.spliced_cons (thn (gn_make hr hbm cs ok hi hs I h) fun v s5 M => ?_)
  refine Calls.spliced_nil ?_
  have hr1 : Room (k + 1) X.A.in1.in1.in1.in1 := ⟨hr.hd, by have := hr.dp; show X.A.depth + 3 * (k + 1) + 5 < _; omega, by have := hr.un; show X.A.units + 1 + 1 + 1 + 1 + 16 * (k + 1) + 200 < _; omega⟩
  obtain ⟨a, gn, B, gp, fp, tn, J, H2, gs, code, rfl, hp, hw, hK, hgen, gpa, IB, hgs, q, back, no, st, ⟨htn, hfp⟩, goes⟩ := gn_enter (k := k) (A₁ := X.A.in1.in1.in1.in1) hr1 rfl hN ok hig pt M
  rw [← hp, ← hw] at goes ⊢
  have hdep : X.A.depth < recursionLimit := by have := hr.dp; omega
  obtain ⟨W, ⟨m0, w0⟩, turn⟩ := q s5.heap.objs.size (IB.hok.fresh (Nat.le_refl _))
  refine callType_codes (Q₁ := fun obj s₁ => s₁.TypeIs obj "tuple" ∧ ∃ x H', Inv X pins σ H' s₁ ∧ RelV x obj ∧ Q x H') F.called_tuple (F.typeCall_tuple_1 _) F.entry_object_init
    (code_tuple_new_g hgen.typeIs (gn_collect (A := X.A.in1.in1) hr.hd hdep htn hfp hgen gpa IB hgs st no ⟨m0 + 1, fun s' I' st' no' => goes _ _ W turn m0 (m0 + 1) s' _ (Nat.lt_succ_self _) I' st' no' w0⟩ (fun G' f' => ?_) (fun s' G' xs its I' f' hS ri hz => ?_))) fun obj s₁ h₁ => ?_
  · obtain ⟨xs, e, _⟩ := f'
    exact ⟨xs, e⟩
  · obtain ⟨xs', e, q⟩ := f'
    rw [hS] at e
    cases e
    have IX := back _ _ _ I'
    have I2 := IX.laid (t' := s'.toks) (o := .tup xs) (a := s'.heap.objs.size) (h' := s'.heap.push { cls := .type "tuple", data := .seq its.toArray }) (fun b u e => Heap.get?_push_of_some _ e) (Nat.le_refl _) ⟨by rw [ri.length]; exact hz, its, ri, ⟨_, Heap.get?_push_size _ rfl, rfl, _, rfl⟩⟩
    exact ⟨hz, ⟨_, Heap.get?_push_size _ rfl, rfl⟩, .ref s'.heap.objs.size, _, I2, rfl, q _ (IX.hok.fresh (Nat.le_refl _))⟩
  · exact ⟨h₁.1, F.args_object_init_2 obj _, object_init_meets F.called_tuple.init.lookup F.called_tuple.made (by decide) B.prog B.w X.A.in1 _ s₁ ⟨h₁.1, rfl, h₁.2⟩⟩
end
end Pr

/-! values with all that stands within them; a store of what changes; readings over these -/
namespace Dn
open PySem PySem.Spec PyProof.Rows L2 Pr
inductive Dt where
  | non | bl (b : Bool) | int (i : Int) | str (z : Str) | ref (a : Addr) | ty (n : String)
  | tup (l : List Dt) | lst (l : List Dt) | dic (l : List (Key × Dt))
  /-- an instance that stands still: its class, the names of its attributes in the order of their making, the values of the first of them -/
  | obj (C : Addr) (nm : List Str) (l : List Dt)
  /-- the script -/
  | scr (ns : List Int)
  /-- a lambda, kept -/
  | lam (F : NdefX.NF) (b : Expr)
  /-- a tuple that has no attributes of its own (dict() asks) -/
  | ptp (l : List Dt)
  /-- a generator expression's code object, kept for those within it -/
  | gco (c P : Addr)
/-- what stands at an address that may change -/
inductive Cell where
  | lst (l : List Dt) | dic (l : List (Key × Dt)) | dct (l : List (List Key × Dt)) | lck (o : HO) (l : List (Key × Dt))
  | ins (C : Addr) (nm : List Str) (l : List Dt)
  /-- the table of codes of a def, for lambdas and generators of this name -/
  | tbl (q : Str)
  /-- the table of a def whose generator expressions' code objects are known -/
  | gtb
abbrev Store := Addr → Option Cell
abbrev DS := List (Option Dt)
abbrev DK := Dt → Store → Prop
abbrev DX := Addr → Store → Prop
/-- a text that the machine can hold -/
structure SOk (z : Str) : Prop where
  len : z.length ≤ sizeLine
  ok : PySem.PyData.strOk z = true
def KOk : Key → Prop
  | .inl _ => True
  | .inr z => SOk z
section
variable (K : PySem.W.Frag) (G : Hp)
mutual
def Rep : Dt → V → Prop
  | .non, v => v = .non
  | .bl b, v => v = .bl b
  | .int i, v => v = .int i
  | .str z, v => v = .str z ∧ SOk z
  | .ref a, v => v = .ref a
  | .ty n, v => v = .ty n
  | .tup l, v => ∃ a vs, v = .ref a ∧ SqT K G a vs ∧ Reps l vs
  | .ptp l, v => ∃ a vs, v = .ref a ∧ (∃ o : Obj, o.dict = none ∧ G a = some (.frz o (.tup vs))) ∧ Reps l vs
  | .lst l, v => ∃ a vs, v = .ref a ∧ G a = some (.lst vs) ∧ Reps l vs
  | .dic l, v => ∃ a kvs, v = .ref a ∧ Rd G a (.dK kvs) ∧ Repk l kvs
  | .obj C nm l, v => ∃ a dx vs, v = .ref a ∧ G a = some (.ins C dx ((nm.take l.length).zip vs)) ∧ Reps l vs ∧ l.length ≤ nm.length
  | .scr ns, v => ∃ a, v = .ref a ∧ SqL K G a (ns.map V.int)
  | .gco c P, v => v = .ref c ∧ G c = some (GCode c P) ∧ G P = some (GTabO P)
  | .lam F b, v => ∃ f, v = .ref f ∧ G f = some (LmO f F b) ∧ G F.c = some (LamX.CodeO F.c F.qual)
def Reps : List Dt → List V → Prop
  | [], vs => vs = []
  | d :: l, vs => ∃ v r, vs = v :: r ∧ Rep d v ∧ Reps l r
def Repk : List (Key × Dt) → List (Key × V) → Prop
  | [], kvs => kvs = []
  | (k, d) :: l, kvs => ∃ v r, kvs = (k, v) :: r ∧ (KOk k ∧ Rep d v) ∧ Repk l r
end
def Rept : List (List Key × Dt) → List (List Key × V) → Prop
  | [], kvs => kvs = []
  | (k, d) :: l, kvs => ∃ v r, kvs = (k, v) :: r ∧ ((∀ x ∈ k, KOk x) ∧ Rep K G d v) ∧ Rept l r
def CRep : Cell → HO → Prop
  | .lst l, o => ∃ vs, o = .lst vs ∧ Reps K G l vs
  | .dic l, o => ∃ kvs, o = .dK kvs ∧ Repk K G l kvs
  | .dct l, o => ∃ kvs, o = .dT kvs ∧ Rept K G l kvs
  | .lck u l, o => o = u ∧ ∃ ob kvs, o = .frz ob (.dK kvs) ∧ Repk K G l kvs
  | .ins C nm l, o => ∃ dx vs, o = .ins C dx ((nm.take l.length).zip vs) ∧ Reps K G l vs ∧ l.length ≤ nm.length
  | .gtb, o => ∃ ps : Array Value, o = .tbl ps ∧ TriplesOk ps.toList ∧ ∀ (pos : Pos) (cv : Value), codeAmong pos ps.toList = some cv → ∃ c P', cv = .ref c ∧ G c = some (GCode c P') ∧ G P' = some (GTabO P')
  | .tbl q, o => ∃ ps : Array Value, o = .tbl ps ∧ TriplesOk ps.toList ∧ ∀ (pos : Pos) (cv : Value), codeAmong pos ps.toList = some cv → ∃ c, cv = .ref c ∧ G c = some (LamX.CodeO c q)
end
/-- a dict, walked or not -/
def IsDk (o : HO) (kvs : List (Key × V)) : Prop := o = .dK kvs ∨ ∃ ob, o = .frz ob (.dK kvs)
/-- all that G holds G' holds; a dict may be walked in the one and not in the other -/
def Alt (o o' : HO) : Prop := o = o' ∨ ∃ kvs, IsDk o kvs ∧ IsDk o' kvs
def IsTb (o : HO) : Prop := ∃ ps, o = .tbl ps
/-- of tables that stand aside nothing is told -/
def Ext (G G' : Hp) : Prop := ∀ b o, G b = some o → ¬ IsTb o → ∃ o', G' b = some o' ∧ Alt o o'
theorem IsDk.uniq {o : HO} {k1 k2 : List (Key × V)} (a : IsDk o k1) (b : IsDk o k2) : k1 = k2 := by
  rcases a with rfl | ⟨ob, rfl⟩ <;> rcases b with h | ⟨ob2, h⟩ <;> cases h <;> rfl
theorem Alt.trans {o o1 o2 : HO} (a : Alt o o1) (b : Alt o1 o2) : Alt o o2 := by
  rcases a with rfl | ⟨k1, x1, y1⟩
  · exact b
  · rcases b with rfl | ⟨k2, x2, y2⟩
    · exact .inr ⟨k1, x1, y1⟩
    · have := y1.uniq x2
      subst this
      exact .inr ⟨k1, x1, y2⟩
/-- what is neither a dict nor a table -/
def Still : HO → Prop
  | .dK _ => False
  | .frz _ (.dK _) => False
  | .tbl _ => False
  | _ => True
theorem Alt.still {o o' : HO} (a : Alt o o') (h : Still o) : o' = o := by
  rcases a with rfl | ⟨k, x, y⟩
  · rfl
  · rcases x with rfl | ⟨ob, rfl⟩ <;> exact h.elim
theorem Alt.noTb {o o' : HO} (a : Alt o o') (h : ¬ IsTb o) : ¬ IsTb o' := by
  rcases a with rfl | ⟨k, x, y⟩
  · exact h
  · rintro ⟨ps, rfl⟩
    rcases y with y | ⟨_, y⟩ <;> cases y
theorem Ext.refl {G : Hp} : Ext G G := fun _ o h _ => ⟨o, h, .inl rfl⟩
theorem Ext.trans {G G1 G2 : Hp} (a : Ext G G1) (b : Ext G1 G2) : Ext G G2 := fun c o h n => by
  obtain ⟨o1, h1, e1⟩ := a c o h n
  obtain ⟨o2, h2, e2⟩ := b c o1 h1 (e1.noTb n)
  exact ⟨o2, h2, e1.trans e2⟩
theorem Ext.of {G G' : Hp} (h : ∀ b o, G b = some o → G' b = some o) : Ext G G' := fun b o e _ => ⟨o, h b o e, .inl rfl⟩
theorem Still.noTb {o : HO} (s : Still o) : ¬ IsTb o := by
  rintro ⟨ps, rfl⟩
  exact s
theorem Ext.still {G G' : Hp} {a : Addr} {o : HO} (e : Ext G G') (h : G a = some o) (s : Still o) : G' a = some o := by
  obtain ⟨o', h', z⟩ := e a _ h s.noTb
  rw [h', z.still s]
theorem Ext.lst {G G' : Hp} {a : Addr} {vs : List V} (e : Ext G G') (h : G a = some (.lst vs)) : G' a = some (.lst vs) := e.still h trivial
theorem Ext.ins {G G' : Hp} {a C dx : Addr} {fs : List (Str × V)} (e : Ext G G') (h : G a = some (.ins C dx fs)) : G' a = some (.ins C dx fs) := e.still h trivial
theorem Ext.tup {K : PySem.W.Frag} {G G' : Hp} {a : Addr} {vs : List V} (e : Ext G G') (h : SqT K G a vs) : SqT K G' a vs := by
  rcases h with (h | ⟨ob, h⟩) | h
  · exact .inl (.inl (e.still h trivial))
  · exact .inl (.inr ⟨ob, e.still h trivial⟩)
  · exact .inr h
theorem Ext.scr {K : PySem.W.Frag} {G G' : Hp} {a : Addr} {vs : List V} (e : Ext G G') (h : SqL K G a vs) : SqL K G' a vs := by
  rcases h with (h | ⟨ob, h⟩) | h
  · exact .inl (.inl (e.still h trivial))
  · exact .inl (.inr ⟨ob, e.still h trivial⟩)
  · exact .inr h
theorem Ext.dic {G G' : Hp} {a : Addr} {kvs : List (Key × V)} (e : Ext G G') (h : Rd G a (.dK kvs)) : Rd G' a (.dK kvs) := by
  have fin : ∀ o, G a = some o → IsDk o kvs → Rd G' a (.dK kvs) := fun o h q => by
    obtain ⟨o', h', z⟩ := e a _ h (by
      rintro ⟨ps, rfl⟩
      rcases q with h | ⟨_, h⟩ <;> cases h)
    have : IsDk o' kvs := by
      rcases z with rfl | ⟨k, x, y⟩
      · exact q
      · have := x.uniq q
        subst this
        exact y
    rcases this with rfl | ⟨ob, rfl⟩
    · exact .inl h'
    · exact .inr ⟨ob, h'⟩
  rcases h with h | ⟨ob, h⟩
  · exact fin _ h (.inl rfl)
  · exact fin _ h (.inr ⟨ob, rfl⟩)
section
variable {K : PySem.W.Frag} {G G' : Hp}
mutual
theorem Rep.ext (e : Ext G G') : ∀ (d : Dt) (v : V), Rep K G d v → Rep K G' d v
  | .non, _, h | .bl _, _, h | .int _, _, h | .str _, _, h | .ref _, _, h | .ty _, _, h => h
  | .tup l, v, ⟨a, vs, h1, h2, h3⟩ => ⟨a, vs, h1, e.tup h2, Reps.ext e l vs h3⟩
  | .ptp l, v, ⟨a, vs, h1, ⟨o, ho, h2⟩, h3⟩ => ⟨a, vs, h1, ⟨o, ho, e.still h2 trivial⟩, Reps.ext e l vs h3⟩
  | .lst l, v, ⟨a, vs, h1, h2, h3⟩ => ⟨a, vs, h1, e.lst h2, Reps.ext e l vs h3⟩
  | .dic l, v, ⟨a, vs, h1, h2, h3⟩ => ⟨a, vs, h1, e.dic h2, Repk.ext e l vs h3⟩
  | .obj C nm l, v, ⟨a, dx, vs, h1, h2, h3, h4⟩ => ⟨a, dx, vs, h1, e.ins h2, Reps.ext e l vs h3, h4⟩
  | .scr ns, v, ⟨a, h1, h2⟩ => ⟨a, h1, e.scr h2⟩
  | .gco c P, v, ⟨h1, h2, h3⟩ => ⟨h1, e.still h2 trivial, e.still h3 trivial⟩
  | .lam F b, v, ⟨f, h1, h2, h3⟩ => ⟨f, h1, e.still h2 trivial, e.still h3 trivial⟩
theorem Reps.ext (e : Ext G G') : ∀ (l : List Dt) (vs : List V), Reps K G l vs → Reps K G' l vs
  | [], _, h => h
  | d :: l, vs, ⟨v, r, h1, h2, h3⟩ => ⟨v, r, h1, Rep.ext e d v h2, Reps.ext e l r h3⟩
theorem Repk.ext (e : Ext G G') : ∀ (l : List (Key × Dt)) (vs : List (Key × V)), Repk K G l vs → Repk K G' l vs
  | [], _, h => h
  | (k, d) :: l, vs, ⟨v, r, h1, h2, h3⟩ => ⟨v, r, h1, ⟨h2.1, Rep.ext e d v h2.2⟩, Repk.ext e l r h3⟩
end
theorem Rept.ext (e : Ext G G') : ∀ (l : List (List Key × Dt)) (vs : List (List Key × V)), Rept K G l vs → Rept K G' l vs
  | [], _, h => h
  | (k, d) :: l, vs, ⟨v, r, h1, h2, h3⟩ => ⟨v, r, h1, ⟨h2.1, Rep.ext e d v h2.2⟩, Rept.ext e l r h3⟩
theorem CRep.ext (e : Ext G G') (c : Cell) (o : HO) (h : CRep K G c o) : CRep K G' c o := by
  cases c with
  | lst l => obtain ⟨vs, h1, h2⟩ := h; exact ⟨vs, h1, Reps.ext e _ _ h2⟩
  | dic l => obtain ⟨vs, h1, h2⟩ := h; exact ⟨vs, h1, Repk.ext e _ _ h2⟩
  | dct l => obtain ⟨vs, h1, h2⟩ := h; exact ⟨vs, h1, Rept.ext e _ _ h2⟩
  | lck u l => obtain ⟨h0, ob, vs, h1, h2⟩ := h; exact ⟨h0, ob, vs, h1, Repk.ext e _ _ h2⟩
  | ins C nm l => obtain ⟨dx, vs, h1, h2, h3⟩ := h; exact ⟨dx, vs, h1, Reps.ext e _ _ h2, h3⟩
  | tbl q =>
    obtain ⟨ps, h1, h2, h3⟩ := h
    refine ⟨ps, h1, h2, fun pos cv hc => ?_⟩
    obtain ⟨c, e1, e2⟩ := h3 pos cv hc
    exact ⟨c, e1, e.still e2 trivial⟩
  | gtb =>
    obtain ⟨ps, h1, h2, h3⟩ := h
    refine ⟨ps, h1, h2, fun pos cv hc => ?_⟩
    obtain ⟨c, P', e1, e2, e3⟩ := h3 pos cv hc
    exact ⟨c, P', e1, e.still e2 trivial, e.still e3 trivial⟩
theorem Reps.pair : ∀ {l : List Dt} {vs : List V}, Reps K G l vs ↔ Paired (Rep K G) l vs
  | [], vs => ⟨fun h => by rw [show vs = [] from h]; exact .nil, fun h => by cases h; exact rfl⟩
  | d :: l, vs => ⟨fun ⟨v, r, e, h1, h2⟩ => by rw [e]; exact .cons h1 (Reps.pair.mp h2), fun h => by
    cases h with
    | cons h1 h2 => exact ⟨_, _, rfl, h1, Reps.pair.mpr h2⟩⟩
theorem Reps.len {l : List Dt} {vs : List V} (h : Reps K G l vs) : l.length = vs.length := Paired.length (Reps.pair.mp h)
theorem Repk.pair : ∀ {l : List (Key × Dt)} {vs : List (Key × V)}, Repk K G l vs ↔ Paired (fun p q => p.1 = q.1 ∧ (KOk p.1 ∧ Rep K G p.2 q.2)) l vs
  | [], vs => ⟨fun h => by rw [show vs = [] from h]; exact .nil, fun h => by cases h; exact rfl⟩
  | (k, d) :: l, vs => ⟨fun ⟨v, r, e, h1, h2⟩ => by rw [e]; exact .cons ⟨rfl, h1⟩ (Repk.pair.mp h2), fun h => by
    cases h with
    | @cons _ q _ r h1 h2 =>
      obtain ⟨q1, q2⟩ := q
      obtain ⟨e, h1⟩ := h1
      cases e
      exact ⟨_, _, rfl, h1, Repk.pair.mpr h2⟩⟩
theorem Rept.pair : ∀ {l : List (List Key × Dt)} {vs : List (List Key × V)}, Rept K G l vs ↔ Paired (fun p q => p.1 = q.1 ∧ ((∀ x ∈ p.1, KOk x) ∧ Rep K G p.2 q.2)) l vs
  | [], vs => ⟨fun h => by rw [show vs = [] from h]; exact .nil, fun h => by cases h; exact rfl⟩
  | (k, d) :: l, vs => ⟨fun ⟨v, r, e, h1, h2⟩ => by rw [e]; exact .cons ⟨rfl, h1⟩ (Rept.pair.mp h2), fun h => by
    cases h with
    | @cons _ q _ r h1 h2 =>
      obtain ⟨q1, q2⟩ := q
      obtain ⟨e, h1⟩ := h1
      cases e
      exact ⟨_, _, rfl, h1, Rept.pair.mpr h2⟩⟩
end
section
variable {α β : Type} {F : α → β → Prop}
theorem Paired.get : ∀ {l : List α} {m : List β} {i : Nat} {x : α}, Paired F l m → l[i]? = some x → ∃ y, m[i]? = some y ∧ F x y
  | _, _, i, x, .nil, h => by simp at h
  | _, _, 0, x, .cons r t, h => by simp at h; subst h; exact ⟨_, rfl, r⟩
  | _, _, i + 1, x, .cons r t, h => by
    obtain ⟨y, h1, h2⟩ := Paired.get (i := i) t (by simpa using h)
    exact ⟨y, by simpa using h1, h2⟩
theorem Paired.get' : ∀ {l : List α} {m : List β} {i : Nat} {y : β}, Paired F l m → m[i]? = some y → ∃ x, l[i]? = some x ∧ F x y
  | _, _, i, x, .nil, h => by simp at h
  | _, _, 0, x, .cons r t, h => by simp at h; subst h; exact ⟨_, rfl, r⟩
  | _, _, i + 1, x, .cons r t, h => by
    obtain ⟨y, h1, h2⟩ := Paired.get' (i := i) t (by simpa using h)
    exact ⟨y, by simpa using h1, h2⟩
theorem Paired.app : ∀ {l l' : List α} {m m' : List β}, Paired F l m → Paired F l' m' → Paired F (l ++ l') (m ++ m')
  | _, _, _, _, .nil, h => h
  | _, _, _, _, .cons r t, h => .cons r (Paired.app t h)
theorem Paired.setp {x : α} {y : β} (r : F x y) : ∀ {l : List α} {m : List β} (i : Nat), Paired F l m → Paired F (l.set i x) (m.set i y)
  | _, _, _, .nil => .nil
  | _, _, 0, .cons _ t => .cons r t
  | _, _, i + 1, .cons q t => .cons q (Paired.setp r i t)
theorem Paired.drop : ∀ {l : List α} {m : List β} (n : Nat), Paired F l m → Paired F (l.drop n) (m.drop n)
  | _, _, 0, h => h
  | _, _, _ + 1, .nil => .nil
  | _, _, n + 1, .cons _ t => Paired.drop n t
theorem Paired.take : ∀ {l : List α} {m : List β} (n : Nat), Paired F l m → Paired F (l.take n) (m.take n)
  | _, _, 0, _ => .nil
  | _, _, _ + 1, .nil => .nil
  | _, _, n + 1, .cons r t => .cons r (Paired.take n t)
theorem Paired.rev : ∀ {l : List α} {m : List β}, Paired F l m → Paired F l.reverse m.reverse
  | _, _, .nil => .nil
  | _, _, .cons r t => by rw [List.reverse_cons, List.reverse_cons]; exact Paired.app (Paired.rev t) (.cons r .nil)
end
/-! ## the heap beside the store -/
/-- what stands still: all but the store's and what is hidden -/
def out (H : Hp) (S : Store) (Z : Hp) : Hp := fun b => if (S b).isSome = true ∨ (Z b).isSome = true then none else H b
def sput (S : Store) (a : Addr) (c : Cell) : Store := fun b => if b = a then some c else S b
def sdel (S : Store) (a : Addr) : Store := fun b => if b = a then none else S b
theorem sput_same {S : Store} {a : Addr} {c : Cell} : sput S a c a = some c := by unfold sput; rw [if_pos rfl]
theorem sput_ne {S : Store} {a b : Addr} {c : Cell} (h : b ≠ a) : sput S a c b = S b := by unfold sput; rw [if_neg h]
theorem sdel_ne {S : Store} {a b : Addr} (h : b ≠ a) : sdel S a b = S b := by unfold sdel; rw [if_neg h]
theorem sput_sput {S : Store} {a : Addr} {c d : Cell} : sput (sput S a c) a d = sput S a d := by
  funext b; unfold sput; split <;> rfl
/-- what is hidden: lists, dicts under way -/
def Hid (o : HO) : Prop := (∃ vs, o = .lst vs) ∨ ∃ kvs, o = .dK kvs
structure Good (K : PySem.W.Frag) (Z H : Hp) (S : Store) : Prop where
  z : ∀ b o, Z b = some o → H b = some o ∧ S b = none ∧ Hid o
  c : ∀ a x, S a = some x → ∃ o, H a = some o ∧ CRep K (out H S Z) x o
section
variable {K : PySem.W.Frag} {Z H H' : Hp} {S S' : Store} {a p : Addr} {o : HO}
theorem out_some {b : Addr} (h : out H S Z b = some o) : S b = none ∧ Z b = none ∧ H b = some o := by
  unfold out at h
  split at h
  · cases h
  · rename_i n
    refine ⟨?_, ?_, h⟩
    · cases e : S b with
      | none => rfl
      | some x => exact absurd (.inl (by rw [e]; rfl)) n
    · cases e : Z b with
      | none => rfl
      | some x => exact absurd (.inr (by rw [e]; rfl)) n
theorem out_of {b : Addr} (h1 : S b = none) (h2 : Z b = none) : out H S Z b = H b := by
  unfold out
  rw [if_neg]
  rintro (h | h)
  · rw [h1] at h; cases h
  · rw [h2] at h; cases h
theorem Good.nS (g : Good K Z H S) (n : H p = none) : S p = none := by
  cases e : S p with
  | none => rfl
  | some x => obtain ⟨o, h, _⟩ := g.c p x e; rw [n] at h; cases h
theorem Good.nZ (g : Good K Z H S) (n : H p = none) : Z p = none := by
  cases e : Z p with
  | none => rfl
  | some x => have := (g.z p x e).1; rw [n] at this; cases this
/-- a new thing that stands still -/
theorem ext_new (g : Good K Z H S) (n : H p = none) : Ext (out H S Z) (out (upd H p o) S Z) := Ext.of fun b o' h => by
  obtain ⟨h1, h2, h3⟩ := out_some h
  rw [out_of h1 h2, upd_ne (ne_of_none h3 n)]
  exact h3
theorem Good.new (g : Good K Z H S) (n : H p = none) : Good K Z (upd H p o) S := by
  have e := ext_new (o := o) g n
  refine ⟨fun b o' h => ⟨(upd_ne (ne_of_none (g.z b o' h).1 n)).trans (g.z b o' h).1, (g.z b o' h).2⟩, fun b x h => ?_⟩
  obtain ⟨o', h1, h2⟩ := g.c b x h
  exact ⟨o', (upd_ne (ne_of_none h1 n)).trans h1, CRep.ext e _ _ h2⟩
theorem out_new (g : Good K Z H S) (n : H p = none) : out (upd H p o) S Z p = some o := by
  rw [out_of (g.nS n) (g.nZ n), upd_same]
/-- a new cell -/
theorem out_own (g : Good K Z H S) (n : H p = none) {c : Cell} : out (upd H p o) (sput S p c) Z = out H S Z := by
  funext b
  by_cases hb : b = p
  · subst hb
    have e1 : out (upd H b o) (sput S b c) Z b = none := by
      unfold out
      rw [if_pos]
      rw [sput_same]; exact .inl rfl
    rw [e1, out_of (g.nS n) (g.nZ n), n]
  · unfold out
    rw [sput_ne hb, upd_ne hb]
theorem Good.own (g : Good K Z H S) (n : H p = none) {c : Cell} (h : CRep K (out H S Z) c o) : Good K Z (upd H p o) (sput S p c) := by
  refine ⟨fun b o' e => ?_, fun b x e => ?_⟩
  · have hb := ne_of_none (g.z b o' e).1 n
    rw [upd_ne hb, sput_ne hb]
    exact g.z b o' e
  · rw [out_own g n]
    by_cases hb : b = p
    · subst hb
      rw [sput_same] at e
      cases e
      exact ⟨o, upd_same, h⟩
    · rw [sput_ne hb] at e
      rw [upd_ne hb]
      exact g.c b x e
/-- a cell changes -/
theorem out_mut {c c' : Cell} (h : S a = some c) : out (upd H a o) (sput S a c') Z = out H S Z := by
  funext b
  by_cases hb : b = a
  · subst hb
    unfold out
    rw [if_pos (.inl (by rw [sput_same]; rfl)), if_pos (.inl (by rw [h]; rfl))]
  · unfold out
    rw [sput_ne hb, upd_ne hb]
theorem Good.mut (g : Good K Z H S) {c c' : Cell} (h : S a = some c) (r : CRep K (out H S Z) c' o) : Good K Z (upd H a o) (sput S a c') := by
  refine ⟨fun b o' e => ?_, fun b x e => ?_⟩
  · have hb : b ≠ a := fun z => by
      have := (g.z b o' e).2.1
      rw [z, h] at this
      cases this
    rw [upd_ne hb, sput_ne hb]
    exact g.z b o' e
  · rw [out_mut h]
    by_cases hb : b = a
    · subst hb
      rw [sput_same] at e
      cases e
      exact ⟨o, upd_same, r⟩
    · rw [sput_ne hb] at e
      rw [upd_ne hb]
      exact g.c b x e
theorem out_le {b : Addr} (h : out H S Z b = some o) : H b = some o := (out_some h).2.2
end
/-! ## slots -/
@[reducible] def look : DS → Nat → Option Dt
  | [], _ => none
  | x :: _, 0 => x
  | _ :: l, n + 1 => look l n
@[reducible] def putS : DS → Nat → Dt → DS
  | [], _, _ => []
  | _ :: l, 0, d => some d :: l
  | x :: l, n + 1, d => x :: putS l n d
@[reducible] def wipeS : DS → Nat → DS
  | [], _ => []
  | _ :: l, 0 => none :: l
  | x :: l, n + 1 => x :: wipeS l n
def SltR (K : PySem.W.Frag) (G : Hp) (v : Option V) (d : Option Dt) : Prop := ∀ x, d = some x → ∃ u, v = some u ∧ Rep K G x u
def Slots (K : PySem.W.Frag) (G : Hp) (σ : L2.St) (δ : DS) : Prop := Paired (SltR K G) σ δ
section
variable {K : PySem.W.Frag} {G G' : Hp} {σ : L2.St} {δ : DS}
theorem Slots.ext (h : Slots K G σ δ) (e : Ext G G') : Slots K G' σ δ := Paired.mapP h fun v d q x hx => by
  obtain ⟨u, h1, h2⟩ := q x hx
  exact ⟨u, h1, Rep.ext e _ _ h2⟩
theorem look_get : ∀ {δ : DS} {i : Nat} {d : Dt}, look δ i = some d → δ[i]? = some (some d)
  | [], _, _, h => by simp [look] at h
  | x :: _, 0, d, h => by simp [look] at h; simp [h]
  | _ :: l, n + 1, d, h => by
    have : l[n]? = some (some d) := look_get (by simpa [look] using h)
    simpa using this
theorem Slots.look (h : Slots K G σ δ) {i : Nat} {d : Dt} (e : look δ i = some d) : ∃ v, σ[i]? = some (some v) ∧ Rep K G d v := by
  obtain ⟨v, h1, h2⟩ := Paired.get' h (look_get e)
  obtain ⟨u, h3, h4⟩ := h2 d rfl
  exact ⟨u, by rw [h1, h3], h4⟩
theorem putS_set : ∀ (δ : DS) (i : Nat) (d : Dt), putS δ i d = δ.set i (some d)
  | [], _, _ => rfl
  | _ :: _, 0, _ => rfl
  | x :: l, n + 1, d => by show x :: putS l n d = x :: l.set n (some d); rw [putS_set]
theorem wipeS_set : ∀ (δ : DS) (i : Nat), wipeS δ i = δ.set i none
  | [], _ => rfl
  | _ :: _, 0 => rfl
  | x :: l, n + 1 => by show x :: wipeS l n = x :: l.set n none; rw [wipeS_set]
theorem Slots.put (h : Slots K G σ δ) {i : Nat} {d : Dt} {v : V} (r : Rep K G d v) : Slots K G (σ.set i (some v)) (putS δ i d) := by
  rw [putS_set]
  exact Paired.setp (fun x hx => ⟨v, rfl, by cases hx; exact r⟩) i h
theorem Slots.wipe (h : Slots K G σ δ) {i : Nat} {o : Option V} : Slots K G (σ.set i o) (wipeS δ i) := by
  rw [wipeS_set]
  exact Paired.setp (fun x hx => by cases hx) i h
end
/-! ## readings -/
abbrev DTE := DS → Store → DK → Prop
abbrev DTT := DS → Store → (Bool → Store → Prop) → Prop
abbrev DTA := DS → Store → (List Dt → Store → Prop) → Prop
structure DEnds where
  nx : DS → Store → Prop
  rt : DK
  bk : DS → Store → Prop := fun _ _ => False
  ct : DS → Store → Prop := fun _ _ => False
abbrev DTS := DEnds → DS → Store → Prop
/-- an exception that leaves -/
def Lk (K : PySem.W.Frag) (E : XK) (e : DX) (Z G : Hp) : Prop := ∀ c H' S', Good K Z H' S' → Ext G (out H' S' Z) → e c S' → E (.ref c) none H'
theorem Lk.ext {K : PySem.W.Frag} {E : XK} {e : DX} {Z G G' : Hp} (h : Lk K E e Z G) (x : Ext G G') : Lk K E e Z G' := fun c H' S' g y q => h c H' S' g (x.trans y) q
/-- the state at which a reading stands -/
structure At (K : PySem.W.Frag) (E : XK) (e : DX) (Z H : Hp) (S : Store) (σ : L2.St) (δ : DS) : Prop where
  good : Good K Z H S
  sl : Slots K (out H S Z) σ δ
  lk : Lk K E e Z (out H S Z)
/-- behind it -/
def Ty (K : PySem.W.Frag) (Z H : Hp) (S : Store) (q : DK) (Q : VK) : Prop := ∀ v x H' S', Good K Z H' S' → Ext (out H S Z) (out H' S' Z) → Rep K (out H' S' Z) x v → q x S' → Q v H'
def tD (K : PySem.W.Frag) (E : XK) (e : DX) (d : DTE) : TE := fun σ H Q => ∃ δ S Z q, At K E e Z H S σ δ ∧ d δ S q ∧ Ty K Z H S q Q
def tDT (K : PySem.W.Frag) (E : XK) (e : DX) (d : DTT) : TT := fun σ H Q => ∃ δ S Z q, At K E e Z H S σ δ ∧ d δ S q ∧ ∀ b H' S', Good K Z H' S' → Ext (out H S Z) (out H' S' Z) → q b S' → Q b H'
def tDA (K : PySem.W.Frag) (E : XK) (e : DX) (d : DTA) : TA := fun σ H Q => ∃ δ S Z q, At K E e Z H S σ δ ∧ d δ S q ∧ ∀ vs ds H' S', Good K Z H' S' → Ext (out H S Z) (out H' S' Z) → Reps K (out H' S' Z) ds vs → q ds S' → Q vs H'
/-- the ends -/
structure EnL (K : PySem.W.Frag) (Z G : Hp) (D : Ends) (DD : DEnds) : Prop where
  nx : ∀ σ δ H S, Good K Z H S → Ext G (out H S Z) → Slots K (out H S Z) σ δ → DD.nx δ S → D.nx σ H
  rt : ∀ v x H S, Good K Z H S → Ext G (out H S Z) → Rep K (out H S Z) x v → DD.rt x S → D.rt v H
  bk : ∀ σ δ H S, Good K Z H S → Ext G (out H S Z) → Slots K (out H S Z) σ δ → DD.bk δ S → D.bk σ H
  ct : ∀ σ δ H S, Good K Z H S → Ext G (out H S Z) → Slots K (out H S Z) σ δ → DD.ct δ S → D.ct σ H
theorem EnL.ext {K : PySem.W.Frag} {Z G G' : Hp} {D : Ends} {DD : DEnds} (h : EnL K Z G D DD) (x : Ext G G') : EnL K Z G' D DD :=
  ⟨fun σ δ H S g y => h.nx σ δ H S g (x.trans y), fun v d H S g y => h.rt v d H S g (x.trans y), fun σ δ H S g y => h.bk σ δ H S g (x.trans y), fun σ δ H S g y => h.ct σ δ H S g (x.trans y)⟩
def tDS (K : PySem.W.Frag) (E : XK) (e : DX) (d : DTS) : TS := fun D σ H => ∃ δ S Z DD, At K E e Z H S σ δ ∧ d DD δ S ∧ EnL K Z (out H S Z) D DD
section
variable {K : PySem.W.Frag} {E : XK} {e : DX} {Z H H' : Hp} {S S' : Store} {σ : L2.St} {δ : DS} {q : DK} {Q : VK}
theorem At.to (a : At K E e Z H S σ δ) (g : Good K Z H' S') (x : Ext (out H S Z) (out H' S' Z)) : At K E e Z H' S' σ δ := ⟨g, a.sl.ext x, a.lk.ext x⟩
theorem Ty.ext (h : Ty K Z H S q Q) (x : Ext (out H S Z) (out H' S' Z)) : Ty K Z H' S' q Q := fun v d H2 S2 g y => h v d H2 S2 g (x.trans y)
end
section
variable {X : Cx} {ex : Expr} {t t' : TE}
theorem PE.imp (h : PE X ex t) (i : ∀ σ H Q, t' σ H Q → t σ H Q) : PE X ex t' := ⟨fun pins s σ H Q I q => h.run pins s σ H Q I (i _ _ _ q)⟩
theorem PT.imp {t t' : TT} (h : PT X ex t) (i : ∀ σ H Q, t' σ H Q → t σ H Q) : PT X ex t' := ⟨fun pins s σ H Q I q => h.run pins s σ H Q I (i _ _ _ q)⟩
theorem PW.imp {t t' : TT} (h : PW X ex t) (i : ∀ σ H Q, t' σ H Q → t σ H Q) : PW X ex t' := ⟨fun wh pins s σ H Q I q => h.run wh pins s σ H Q I (i _ _ _ q)⟩
theorem PA.imp {es : List Expr} {t t' : TA} (h : PA X es t) (i : ∀ σ H Q, t' σ H Q → t σ H Q) : PA X es t' := ⟨fun po pins s σ H Q I q => h.run po pins s σ H Q I (i _ _ _ q)⟩
theorem PS.imp {st : Stmt} {t t' : TS} (h : PS X st t) (i : ∀ D σ H, t' D σ H → t D σ H) : PS X st t' := ⟨fun pins s σ H D I q => h.run pins s σ H D I (i _ _ _ q)⟩
theorem PSs.imp {st : List Stmt} {t t' : TS} (h : PSs X st t) (i : ∀ D σ H, t' D σ H → t D σ H) : PSs X st t' := ⟨fun pins s σ H D I q => h.run pins s σ H D I (i _ _ _ q)⟩
end
end Dn

namespace Dn
open PySem PySem.Spec PyProof.Rows L2 Pr
/-! ## operations by values -/
abbrev D2 := Dt → Dt → Store → DK → Prop
def rD (K : PySem.W.Frag) (dr : D2) : R2 := fun x y H Q => ∃ dx dy S Z q, Good K Z H S ∧ Rep K (out H S Z) dx x ∧ Rep K (out H S Z) dy y ∧ dr dx dy S q ∧ Ty K Z H S q Q
@[reducible] def dOp (dr : D2) (a b : DTE) : DTE := fun δ S q => a δ S fun x S1 => b δ S1 fun y S2 => dr x y S2 q
@[reducible] def dVar (i : Nat) : DTE := fun δ S q => match look δ i with
  | some d => q d S
  | none => False
@[reducible] def dC (d : Dt) : DTE := fun _ S q => q d S
section
variable {K : PySem.W.Frag} {Z H : Hp} {S : Store} {q : DK} {Q : VK} {v x y : V} {d dx dy : Dt} {E : XK} {e : DX} {σ : L2.St} {δ : DS}
/-- the same heap, the same store -/
theorem Ty.here (k : Ty K Z H S q Q) (g : Good K Z H S) (h : q d S) (r : Rep K (out H S Z) d v) : Q v H := k v d H S g Ext.refl r h
/-- a new thing that stands still -/
theorem Ty.new (k : Ty K Z H S q Q) (g : Good K Z H S) {p : Addr} {o : HO} (np : H p = none) (h : q d S) (r : Rep K (out (upd H p o) S Z) d (.ref p)) : Q (.ref p) (upd H p o) := k _ d _ S (g.new np) (ext_new g np) r h
/-- a new cell -/
theorem Ty.own (k : Ty K Z H S q Q) (g : Good K Z H S) {p : Addr} {o : HO} {c : Cell} (np : H p = none) (h : q (.ref p) (sput S p c)) (r : CRep K (out H S Z) c o) : Q (.ref p) (upd H p o) :=
  k _ (.ref p) _ _ (g.own np r) (by rw [out_own g np]; exact Ext.refl) rfl h
theorem tD_op {dr : D2} {da db : DTE} (h : tD K E e (dOp dr da db) σ H Q) : tOp (rD K dr) (tD K E e da) (tD K E e db) σ H Q := by
  obtain ⟨δ, S, Z, q, t, h, k⟩ := h
  exact ⟨δ, S, Z, _, t, h, fun v x H1 S1 g1 x1 r1 h1 => ⟨δ, S1, Z, _, t.to g1 x1, h1, fun w y H2 S2 g2 x2 r2 h2 => ⟨x, y, S2, Z, q, g2, Rep.ext x2 _ _ r1, r2, h2, k.ext (x1.trans x2)⟩⟩⟩
end
section
variable {X : Cx} {K : PySem.W.Frag} {E : XK} {e : DX} {pos pos' apos : Pos} {a b c ex : Expr} {da db dc : DTE}
theorem de_op {op : Operator} {dr : D2} (ho : OpR X (binaryOp op) (rD K dr)) (ha : PE X a (tD K E e da)) (hb : PE X b (tD K E e db)) : PE X (.BinOp a op b pos) (tD K E e (dOp dr da db)) :=
  PE.imp (pe_op ho ha hb) fun _ _ _ h => tD_op h
theorem de_cmp {op : CmpOp} {dr : D2} (ho : OpR X (compareOp op) (rD K dr)) (ha : PE X a (tD K E e da)) (hb : PE X b (tD K E e db)) (hm : behindInMarks op b = false := by rfl) : PE X (.Compare a [op] [b] pos) (tD K E e (dOp dr da db)) :=
  PE.imp (pe_cmpR ho ha hb hm) fun _ _ _ h => tD_op h
theorem dv {i : Nat} {x : Str} (h : PE X (.Name x pos) (tVar i)) : PE X (.Name x pos) (tD K E e (dVar i)) := PE.imp h fun σ H Q h => by
  obtain ⟨δ, S, Z, q, t, h, k⟩ := h
  cases hl : look δ i with
  | none => simp only [dVar, hl] at h
  | some d =>
    simp only [dVar, hl] at h
    obtain ⟨v, h1, h2⟩ := t.sl.look hl
    exact ⟨v, h1, k.here t.good h h2⟩
theorem de_c {v : V} {d : Dt} (h : PE X ex (tC v)) (r : ∀ G, Rep K G d v) : PE X ex (tD K E e (dC d)) := PE.imp h fun σ H Q h => by
  obtain ⟨δ, S, Z, q, t, h, k⟩ := h
  exact k.here t.good h (r _)
theorem de_int {i j} : PE X (.Constant (.int i) j pos) (tD K E e (dC (.int i))) := de_c pe_int fun _ => rfl
theorem de_bl {b j} : PE X (.Constant (.bool b) j pos) (tD K E e (dC (.bl b))) := de_c pe_bl fun _ => rfl
theorem de_non {j} : PE X (.Constant .none j pos) (tD K E e (dC .non)) := de_c pe_non fun _ => rfl
theorem de_str {x j} (h : SOk x := by exact ⟨by decide +kernel, by decide +kernel⟩) : PE X (.Constant (.str x) j pos) (tD K E e (dC (.str x))) := de_c pe_str fun _ => ⟨rfl, h⟩
/-- a module's constant -/
theorem de_gcI {x : Str} {i : Int} (hg : Gl X x) (hm : ∃ u, X.mg x = some u ∧ RelV (.int i) u) (hd : (x == ("__debug__" : Str)) = false := by decide) : PE X (.Name x pos) (tD K E e (dC (.int i))) := de_c (pe_gcI hg hm hd) fun _ => rfl
theorem de_gcS {x z : Str} (hg : Gl X x) (hm : ∃ u, X.mg x = some u ∧ RelV (.str z) u) (h : SOk z := by exact ⟨by decide +kernel, by decide +kernel⟩) (hd : (x == ("__debug__" : Str)) = false := by decide) : PE X (.Name x pos) (tD K E e (dC (.str z))) := de_c (pe_gcI hg hm hd) fun _ => ⟨rfl, h⟩
theorem de_gcT {x : Str} {a : Addr} {d : Dt} (hg : Gl X x) (hm : X.mg x = some (.ref a)) (h : ∀ G, Rep K G d (.ref a)) (hd : (x == ("__debug__" : Str)) = false := by decide) : PE X (.Name x pos) (tD K E e (dC d)) := de_c (pe_glob (v := .ref a) hg hm rfl hd) h
end
/-! ## seeing what stands in a list, a dict, a row -/
@[reducible] def seeL (x : Dt) (S : Store) (k : List Dt → Prop) : Prop := match x with
  | .lst l => k l
  | .ref a => ∃ l, S a = some (.lst l) ∧ k l
  | _ => False
@[reducible] def seeQ (x : Dt) (S : Store) (k : List Dt → Prop) : Prop := match x with
  | .lst l => k l
  | .tup l => k l
  | .ptp l => k l
  | .ref a => ∃ l, S a = some (.lst l) ∧ k l
  | _ => False
@[reducible] def seeD (x : Dt) (S : Store) (k : List (Key × Dt) → Prop) : Prop := match x with
  | .dic l => k l
  | .ref a => ∃ l, (S a = some (.dic l) ∨ ∃ o, S a = some (.lck o l)) ∧ k l
  | _ => False
section
variable {K : PySem.W.Frag} {Z H : Hp} {S : Store} {v : V} {d : Dt}
theorem see_lst (g : Good K Z H S) (r : Rep K (out H S Z) d v) {k : List Dt → Prop} (h : seeL d S k) : ∃ a vs l, v = .ref a ∧ H a = some (.lst vs) ∧ Reps K (out H S Z) l vs ∧ k l := by
  cases d with
  | lst l => obtain ⟨a, vs, h1, h2, h3⟩ := r; exact ⟨a, vs, l, h1, out_le h2, h3, h⟩
  | ref a =>
    obtain ⟨l, h1, h2⟩ := h
    obtain ⟨o, h3, vs, rfl, h4⟩ := g.c a _ h1
    exact ⟨a, vs, l, r, h3, h4, h2⟩
  | _ => exact h.elim
theorem SqT.out {a : Addr} {vs : List V} (h : SqT K (out H S Z) a vs) : SqT K H a vs := by
  rcases h with (h | ⟨o, h⟩) | h
  · exact .inl (.inl (out_le h))
  · exact .inl (.inr ⟨o, out_le h⟩)
  · exact .inr h
theorem Rd.out {a : Addr} {u : HO} (h : Rd (out H S Z) a u) : Rd H a u := by
  rcases h with h | ⟨o, h⟩
  · exact .inl (out_le h)
  · exact .inr ⟨o, out_le h⟩
theorem ptp_sq {G : Hp} {K : PySem.W.Frag} {a : Addr} {vs : List V} (h : ∃ o : Obj, o.dict = none ∧ G a = some (.frz o (.tup vs))) : SqT K G a vs := by
  obtain ⟨o, _, h⟩ := h
  exact .inl (.inr ⟨o, h⟩)
theorem see_seq (g : Good K Z H S) (r : Rep K (out H S Z) d v) {k : List Dt → Prop} (h : seeQ d S k) : ∃ a vs l, v = .ref a ∧ (SqL K H a vs ∨ SqT K H a vs) ∧ Reps K (out H S Z) l vs ∧ k l := by
  cases d with
  | lst l => obtain ⟨a, vs, h1, h2, h3⟩ := r; exact ⟨a, vs, l, h1, .inl (SqL.of (out_le h2)), h3, h⟩
  | tup l => obtain ⟨a, vs, h1, h2, h3⟩ := r; exact ⟨a, vs, l, h1, .inr (SqT.out h2), h3, h⟩
  | ptp l => obtain ⟨a, vs, h1, h2, h3⟩ := r; exact ⟨a, vs, l, h1, .inr (SqT.out (ptp_sq h2)), h3, h⟩
  | ref a =>
    obtain ⟨l, h1, h2⟩ := h
    obtain ⟨o, h3, vs, rfl, h4⟩ := g.c a _ h1
    exact ⟨a, vs, l, r, .inl (SqL.of h3), h4, h2⟩
  | _ => exact h.elim
theorem see_dic (g : Good K Z H S) (r : Rep K (out H S Z) d v) {k : List (Key × Dt) → Prop} (h : seeD d S k) : ∃ a vs l, v = .ref a ∧ Rd H a (.dK vs) ∧ Repk K (out H S Z) l vs ∧ k l := by
  cases d with
  | dic l => obtain ⟨a, vs, h1, h2, h3⟩ := r; exact ⟨a, vs, l, h1, Rd.out h2, h3, h⟩
  | ref a =>
    obtain ⟨l, h1, h2⟩ := h
    rcases h1 with h1 | ⟨o', h1⟩
    · obtain ⟨o, h3, vs, rfl, h4⟩ := g.c a _ h1
      exact ⟨a, vs, l, r, .inl h3, h4, h2⟩
    · obtain ⟨o, h3, rfl, ob, vs, rfl, h4⟩ := g.c a _ h1
      exact ⟨a, vs, l, r, .inr ⟨ob, h3⟩, h4, h2⟩
  | _ => exact h.elim
end
/-! ## texts -/
theorem SOk.empty : SOk "" := ⟨by decide +kernel, by decide +kernel⟩
theorem sok_all {z : Str} : PySem.PyData.strOk z = true ↔ ∀ c ∈ z.cps.toList, c < 0x110000 := by
  show (z.cps.all fun c => decide (c < 0x110000)) = true ↔ _
  rw [Array.all_eq_true_iff_forall_mem]
  constructor
  · intro h c hc; exact of_decide_eq_true (h c (Array.mem_toList_iff.mp hc))
  · intro h c hc; exact decide_eq_true (h c (Array.mem_toList_iff.mpr hc))
theorem app_cps (a b : Str) : (a ++ b).cps.toList = a.cps.toList ++ b.cps.toList := by
  show (a.cps ++ b.cps).toList = _
  rw [Array.toList_append]
theorem len_cps (a : Str) : a.length = a.cps.toList.length := by show a.cps.size = _; rw [Array.length_toList]
theorem app_len (a b : Str) : (a ++ b).length = a.length + b.length := by rw [len_cps, app_cps, List.length_append, ← len_cps, ← len_cps]
theorem SOk.app {a b : Str} (ha : SOk a) (hb : SOk b) (h : a.length + b.length ≤ sizeLine) : SOk (a ++ b) := ⟨by rw [app_len]; exact h, by
  rw [sok_all, app_cps]
  intro c hc
  rcases List.mem_append.mp hc with m | m
  · exact sok_all.mp ha.ok c m
  · exact sok_all.mp hb.ok c m⟩
theorem SOk.sub {a b : Str} (ha : SOk a) (h : ∀ c ∈ b.cps.toList, c ∈ a.cps.toList) (hl : b.length ≤ a.length) : SOk b := ⟨Nat.le_trans hl ha.len, sok_all.mpr fun c hc => sok_all.mp ha.ok c (h c hc)⟩
theorem SOk.sign {a : Str} (ha : SOk a) {c : Nat} (h : c ∈ a.cps.toList) : SOk ⟨#[c]⟩ := ⟨Nat.le_of_ble_eq_true rfl, sok_all.mpr fun d hd => by
  simp at hd
  rw [hd]
  exact sok_all.mp ha.ok c h⟩
/-! ## data -/
def strLt (a b : Str) : Bool := decide (a.cps.toList < b.cps.toList)
mutual
def py : Dt → PyData
  | .non => .none
  | .bl b => .bool b
  | .int i => .int i
  | .str z => .str z
  | .ref _ => .none
  | .ty _ => .none
  | .tup l => .tuple (pys l)
  | .ptp l => .tuple (pys l)
  | .lst l => .list (pys l)
  | .dic _ => .none
  | .obj _ _ _ => .none
  | .scr _ => .none
  | .lam _ _ => .none
  | .gco _ _ => .none
def pys : List Dt → List PyData
  | [] => []
  | d :: l => py d :: pys l
end
mutual
def isDat : Dt → Bool
  | .non | .bl _ | .int _ | .str _ => true
  | .ref _ | .ty _ | .dic _ | .obj _ _ _ | .scr _ | .lam _ _ | .gco _ _ => false
  | .tup l => areDat l
  | .ptp l => areDat l
  | .lst l => areDat l
def areDat : List Dt → Bool
  | [] => true
  | d :: l => isDat d && areDat l
end
def deqv (x y : Dt) : Bool := PyData.eqv (py x) (py y)
theorem pys_map : ∀ l : List Dt, pys l = l.map py
  | [] => rfl
  | d :: l => by show py d :: pys l = _; rw [pys_map l]; rfl
theorem areDat_all : ∀ l : List Dt, areDat l = l.all isDat
  | [] => rfl
  | d :: l => by show (isDat d && areDat l) = _; rw [areDat_all l]; rfl
section
variable {K : PySem.W.Frag} {Z H : Hp} {S : Store}
mutual
theorem Rep.dp : ∀ (d : Dt) (v : V), isDat d = true → Rep K (out H S Z) d v → Dp K H v (py d)
  | .non, v, _, h => by rw [show v = .non from h]; exact .non
  | .bl b, v, _, h => by rw [show v = .bl b from h]; exact .bl b
  | .int i, v, _, h => by rw [show v = .int i from h]; exact .int i
  | .str z, v, _, h => by rw [h.1]; exact .str z
  | .ref _, _, x, _ | .ty _, _, x, _ | .dic _, _, x, _ | .obj _ _ _, _, x, _ | .scr _, _, x, _ | .lam _ _, _, x, _ | .gco _ _, _, x, _ => by simp [isDat] at x
  | .tup l, v, x, ⟨a, vs, e, h2, h3⟩ => by rw [e]; exact .tup (SqT.out h2) (Reps.dp l vs x h3)
  | .ptp l, v, x, ⟨a, vs, e, h2, h3⟩ => by rw [e]; exact .tup (SqT.out (ptp_sq h2)) (Reps.dp l vs x h3)
  | .lst l, v, x, ⟨a, vs, e, h2, h3⟩ => by rw [e]; exact .lst (SqL.of (out_le h2)) (Reps.dp l vs x h3)
theorem Reps.dp : ∀ (l : List Dt) (vs : List V), areDat l = true → Reps K (out H S Z) l vs → DpAll K H vs (pys l)
  | [], vs, _, h => by rw [show vs = [] from h]; exact .nil
  | d :: l, vs, x, ⟨v, r, e, h1, h2⟩ => by
    have x : (isDat d && areDat l) = true := x
    rw [Bool.and_eq_true] at x
    rw [e]
    exact .cons (Rep.dp d v x.1 h1) (Reps.dp l r x.2 h2)
end
mutual
theorem Rep.lay {G : Hp} : ∀ (d : Dt) (v : V), Rep K G d v → (py d).canLay0 = true
  | .non, _, _ | .bl _, _, _ | .int _, _, _ | .ref _, _, _ | .ty _, _, _ | .dic _, _, _ | .obj _ _ _, _, _ | .scr _, _, _ | .lam _ _, _, _ | .gco _ _, _, _ => rfl
  | .str z, _, h => h.2.ok
  | .tup l, v, ⟨a, vs, e, h2, h3⟩ => Reps.lay l vs h3
  | .ptp l, v, ⟨a, vs, e, h2, h3⟩ => Reps.lay l vs h3
  | .lst l, v, ⟨a, vs, e, h2, h3⟩ => Reps.lay l vs h3
theorem Reps.lay {G : Hp} : ∀ (l : List Dt) (vs : List V), Reps K G l vs → PyData.canLayAll0 (pys l) = true
  | [], _, _ => rfl
  | d :: l, vs, ⟨v, r, e, h1, h2⟩ => by
    show (PyData.canLay0 (py d) && PyData.canLayAll0 (pys l)) = true
    rw [Rep.lay d v h1, Reps.lay l r h2]
    rfl
end
theorem Rep.shaped {G : Hp} {d : Dt} {v : V} (h : Rep K G d v) (hd : (py d).depth ≤ 64) : SeqAt.shaped (py d) = true := by
  show ((py d).canLay0 && decide ((py d).depth ≤ 64)) = true
  rw [Rep.lay d v h, decide_eq_true hd]
  rfl
end
/-! ## the operations -/
@[reducible] def rAdd : D2 := fun x y S q => match x, y with
  | .int i, .int j => q (.int (i + j)) S
  | .str a, .str b => a.length + b.length ≤ sizeLine ∧ q (.str (a ++ b)) S
  | .tup a, .tup b => a.length + b.length ≤ sizeLine ∧ q (.tup (a ++ b)) S
  | x, y => seeL x S fun a => seeL y S fun b => a.length + b.length ≤ sizeLine ∧ q (.lst (a ++ b)) S
@[reducible] def rSub : D2 := fun x y S q => match x, y with
  | .int i, .int j => q (.int (i - j)) S
  | _, _ => False
/-- a text many times -/
def repS (z : Str) (n : Nat) : Str := ⟨((List.replicate n z.cps.toList).flatten).toArray⟩
@[reducible] def rMul : D2 := fun x y S q => match x, y with
  | .int i, .int j => CMul i j ∧ q (.int (i * j)) S
  | .str z, .int n => (0 ≤ n ∧ n < 2 ^ 24 ∧ z.length * n.toNat ≤ sizeLine) ∧ q (.str (repS z n.toNat)) S
  | x, .int n => seeL x S fun l => (-(2 ^ 63) ≤ n ∧ n < 2 ^ 63 ∧ l.length * n.toNat ≤ sizeLine) ∧ q (.lst (List.replicate n.toNat l).flatten) S
  | _, _ => False
@[reducible] def rFdiv : D2 := fun x y S q => match x, y with
  | .int i, .int j => (0 < j ∧ j < 1073741824) ∧ q (.int (i / j)) S
  | _, _ => False
@[reducible] def rMod : D2 := fun x y S q => match x, y with
  | .int i, .int j => 0 < j ∧ q (.int (i % j)) S
  | _, _ => False
@[reducible] def rPow : D2 := fun x y S q => match x, y with
  | .int i, .int j => (0 ≤ j ∧ j ≤ 1000000 ∧ i.natAbs < 2 ^ 64) ∧ q (.int (i ^ j.toNat)) S
  | _, _ => False
@[reducible] def rLt : D2 := fun x y S q => match x, y with
  | .int i, .int j => q (.bl (decide (i < j))) S
  | .str a, .str b => q (.bl (strLt a b)) S
  | _, _ => False
@[reducible] def rLe : D2 := fun x y S q => match x, y with
  | .int i, .int j => q (.bl (decide (i ≤ j))) S
  | .str a, .str b => q (.bl (!strLt b a)) S
  | _, _ => False
@[reducible] def rGt : D2 := fun x y S q => match x, y with
  | .int i, .int j => q (.bl (decide (j < i))) S
  | .str a, .str b => q (.bl (strLt b a)) S
  | _, _ => False
@[reducible] def rGe : D2 := fun x y S q => match x, y with
  | .int i, .int j => q (.bl (decide (j ≤ i))) S
  | .str a, .str b => q (.bl (!strLt a b)) S
  | _, _ => False
@[reducible] def isNon : Dt → Bool
  | .non => true
  | _ => false
@[reducible] def notNon : Dt → Bool
  | .non => false
  | _ => true
@[reducible] def rIs : D2 := fun x y S q => match x, y with
  | x, .non => q (.bl (isNon x)) S
  | .bl a, .bl b => q (.bl (decide (a = b))) S
  | _, _ => False
@[reducible] def rIsNot : D2 := fun x y S q => match x, y with
  | x, .non => q (.bl (notNon x)) S
  | .bl a, .bl b => q (.bl (!decide (a = b))) S
  | _, _ => False
/-- equal data -/
def dEq : D2 := fun x y S q => (isDat x = true ∧ isDat y = true ∧ (py x).depth ≤ 64 ∧ (py y).depth ≤ 64) ∧ q (.bl (deqv x y)) S
def dNe : D2 := fun x y S q => (isDat x = true ∧ isDat y = true ∧ (py x).depth ≤ 64 ∧ (py y).depth ≤ 64) ∧ q (.bl (!deqv x y)) S
/-- among the items of a list -/
def memD (x : Dt) (l : List Dt) : Bool := l.any fun z => deqv z x
def hasS (z y : Str) : Bool := !(Builtin.Str.occurrences z y 0 z.length 1).isEmpty
def dIn (neg : Bool) : D2 := fun x y S q => match y with
  | .str z => ∃ t, x = .str t ∧ q (.bl (if neg then !hasS z t else hasS z t)) S
  | .tup l => (isDat x = true ∧ (py x).depth = 0 ∧ l.all (fun z => isDat z && decide ((py z).depth = 0)) = true) ∧ q (.bl (if neg then !memD x l else memD x l)) S
  | y => seeL y S fun l => (isDat x = true ∧ areDat l = true ∧ (py x).depth ≤ 64 ∧ (py (.lst l)).depth ≤ 64) ∧ q (.bl (if neg then !memD x l else memD x l)) S
section
variable {X : Cx} {K : PySem.W.Frag}
theorem od_add (hK : X.K = K) : OpR X (binaryOp .Add) (rD K rAdd) := fun pins s σ H x y v u Q I rv ru ⟨dx, dy, S, Z, q, g, rx, ry, h, k⟩ => by
  have lists : (seeL dx S fun a => seeL dy S fun b => a.length + b.length ≤ sizeLine ∧ q (.lst (a ++ b)) S) → wpAny (model X.prog X.w) X.A (binaryOp .Add v u) (EP X pins σ Q) X.xe s := fun h => by
    obtain ⟨a, xs, l, rfl, ha, ra, h⟩ := see_lst g rx h
    obtain ⟨b, ys, m, rfl, hb, rb, hl, h⟩ := see_lst g ry h
    exact op_cat pins s σ H _ _ v u Q I rv ru ⟨a, b, xs, ys, rfl, rfl, ha, hb, by rw [← ra.len, ← rb.len]; exact hl, fun p np => k.new g np h ⟨p, _, rfl, out_new g np, Reps.pair.mpr (Paired.app (Reps.pair.mp (Reps.ext (ext_new g np) _ _ ra)) (Reps.pair.mp (Reps.ext (ext_new g np) _ _ rb)))⟩⟩
  cases dx with
  | int i =>
    cases dy with
    | int j => exact op_add pins s σ H x y v u Q I rv ru ⟨i, j, rx, ry, k.here g h rfl⟩
    | _ => exact lists h
  | str a =>
    cases dy with
    | str b => exact op_add_str pins s σ H x y v u Q I rv ru ⟨a, b, rx.1, ry.1, h.1, k.here g h.2 ⟨rfl, rx.2.app ry.2 h.1⟩⟩
    | _ => exact lists h
  | tup l =>
    cases dy with
    | tup m =>
      obtain ⟨a, xs, rfl, ha, ra⟩ := rx
      obtain ⟨b, ys, rfl, hb, rb⟩ := ry
      subst hK
      refine op_catA pins s σ H _ _ v u Q I rv ru ⟨a, b, xs, ys, rfl, rfl, SqT.out ha, SqT.out hb, by rw [← ra.len, ← rb.len]; exact h.1, fun ex => ?_, fun nx ey => ?_, fun nx ny p np => ?_⟩
      · have : l = [] := by subst ex; exact List.eq_nil_of_length_eq_zero ra.len
        subst this
        exact k.here g h.2 ⟨b, ys, rfl, hb, by simpa using rb⟩
      · have : m = [] := by subst ey; exact List.eq_nil_of_length_eq_zero rb.len
        subst this
        exact k.here g h.2 ⟨a, xs, rfl, ha, by simpa using ra⟩
      · exact k.new g np h.2 ⟨p, _, rfl, SqT.of (out_new g np), Reps.pair.mpr (Paired.app (Reps.pair.mp (Reps.ext (ext_new g np) _ _ ra)) (Reps.pair.mp (Reps.ext (ext_new g np) _ _ rb)))⟩
    | _ => exact lists h
  | _ => exact lists h
theorem od_sub : OpR X (binaryOp .Sub) (rD K rSub) := fun pins s σ H x y v u Q I rv ru ⟨dx, dy, S, Z, q, g, rx, ry, h, k⟩ => by
  cases dx with
  | int i =>
    cases dy with
    | int j => exact op_sub pins s σ H x y v u Q I rv ru ⟨i, j, rx, ry, k.here g h rfl⟩
    | _ => exact h.elim
  | _ => exact h.elim
theorem od_fdiv : OpR X (binaryOp .FloorDiv) (rD K rFdiv) := fun pins s σ H x y v u Q I rv ru ⟨dx, dy, S, Z, q, g, rx, ry, h, k⟩ => by
  cases dx with
  | int i =>
    cases dy with
    | int j => exact op_fdiv pins s σ H x y v u Q I rv ru ⟨i, j, rx, ry, h.1, k.here g h.2 rfl⟩
    | _ => exact h.elim
  | _ => exact h.elim
theorem od_mod : OpR X (binaryOp .Mod) (rD K rMod) := fun pins s σ H x y v u Q I rv ru ⟨dx, dy, S, Z, q, g, rx, ry, h, k⟩ => by
  cases dx with
  | int i =>
    cases dy with
    | int j => exact op_mod pins s σ H x y v u Q I rv ru ⟨i, j, rx, ry, h.1, k.here g h.2 rfl⟩
    | _ => exact h.elim
  | _ => exact h.elim
theorem od_pow : OpR X (binaryOp .Pow) (rD K rPow) := fun pins s σ H x y v u Q I rv ru ⟨dx, dy, S, Z, q, g, rx, ry, h, k⟩ => by
  cases dx with
  | int i =>
    cases dy with
    | int j => exact op_pow pins s σ H x y v u Q I rv ru ⟨i, j, rx, ry, h.1, k.here g h.2 rfl⟩
    | _ => exact h.elim
  | _ => exact h.elim
theorem od_lt : OpR X (compareOp .Lt) (rD K rLt) := fun pins s σ H x y v u Q I rv ru ⟨dx, dy, S, Z, q, g, rx, ry, h, k⟩ => by
  cases dx with
  | int i =>
    cases dy with
    | int j => exact op_lt pins s σ H x y v u Q I rv ru ⟨i, j, rx, ry, k.here g h rfl⟩
    | _ => exact h.elim
  | str a =>
    cases dy with
    | str b => exact op_lt_str pins s σ H x y v u Q I rv ru ⟨a, b, rx.1, ry.1, k.here g h rfl⟩
    | _ => exact h.elim
  | _ => exact h.elim
theorem od_le : OpR X (compareOp .LtE) (rD K rLe) := fun pins s σ H x y v u Q I rv ru ⟨dx, dy, S, Z, q, g, rx, ry, h, k⟩ => by
  cases dx with
  | int i =>
    cases dy with
    | int j => exact op_le pins s σ H x y v u Q I rv ru ⟨i, j, rx, ry, k.here g h rfl⟩
    | _ => exact h.elim
  | str a =>
    cases dy with
    | str b => exact op_le_str pins s σ H x y v u Q I rv ru ⟨a, b, rx.1, ry.1, k.here g h rfl⟩
    | _ => exact h.elim
  | _ => exact h.elim
theorem od_gt : OpR X (compareOp .Gt) (rD K rGt) := fun pins s σ H x y v u Q I rv ru ⟨dx, dy, S, Z, q, g, rx, ry, h, k⟩ => by
  cases dx with
  | int i =>
    cases dy with
    | int j => exact op_gt pins s σ H x y v u Q I rv ru ⟨i, j, rx, ry, k.here g h rfl⟩
    | _ => exact h.elim
  | str a =>
    cases dy with
    | str b => exact op_gt_str pins s σ H x y v u Q I rv ru ⟨a, b, rx.1, ry.1, k.here g h rfl⟩
    | _ => exact h.elim
  | _ => exact h.elim
theorem od_ge : OpR X (compareOp .GtE) (rD K rGe) := fun pins s σ H x y v u Q I rv ru ⟨dx, dy, S, Z, q, g, rx, ry, h, k⟩ => by
  cases dx with
  | int i =>
    cases dy with
    | int j => exact op_ge pins s σ H x y v u Q I rv ru ⟨i, j, rx, ry, k.here g h rfl⟩
    | _ => exact h.elim
  | str a =>
    cases dy with
    | str b => exact op_ge_str pins s σ H x y v u Q I rv ru ⟨a, b, rx.1, ry.1, k.here g h rfl⟩
    | _ => exact h.elim
  | _ => exact h.elim
theorem isNon_rep {G : Hp} {d : Dt} {v : V} (r : Rep K G d v) : decide (v = .non) = isNon d := by
  cases d with
  | non => rw [show v = .non from r]; rfl
  | str z => rw [r.1]; rfl
  | tup l => obtain ⟨a, vs, rfl, _⟩ := r; rfl
  | ptp l => obtain ⟨a, vs, rfl, _⟩ := r; rfl
  | lst l => obtain ⟨a, vs, rfl, _⟩ := r; rfl
  | dic l => obtain ⟨a, vs, rfl, _⟩ := r; rfl
  | obj C nm l => obtain ⟨a, dx, vs, rfl, _⟩ := r; rfl
  | scr ns => obtain ⟨a, rfl, _⟩ := r; rfl
  | lam F b => obtain ⟨a, rfl, _⟩ := r; rfl
  | gco c P => obtain ⟨rfl, _⟩ := r; rfl
  | bl b => rw [show v = _ from r]; rfl
  | int i => rw [show v = _ from r]; rfl
  | ref a => rw [show v = _ from r]; rfl
  | ty a => rw [show v = _ from r]; rfl
theorem od_is : OpR X (compareOp .Is) (rD K rIs) := fun pins s σ H x y v u Q I rv ru ⟨dx, dy, S, Z, q, g, rx, ry, h, k⟩ => by
  cases dy with
  | non =>
    have h : q (.bl (isNon dx)) S := by cases dx <;> exact h
    exact op_isN pins s σ H x y v u Q I rv ru ⟨ry, by rw [isNon_rep rx]; exact k.here g h rfl⟩
  | bl b =>
    cases dx with
    | bl a => exact op_isBl pins s σ H x y v u Q I rv ru ⟨a, b, rx, ry, k.here g h rfl⟩
    | _ => exact h.elim
  | _ => cases dx <;> exact h.elim
theorem od_isNot : OpR X (compareOp .IsNot) (rD K rIsNot) := fun pins s σ H x y v u Q I rv ru ⟨dx, dy, S, Z, q, g, rx, ry, h, k⟩ => by
  cases dy with
  | non =>
    have h : q (.bl (!isNon dx)) S := by cases dx <;> exact h
    exact op_notN pins s σ H x y v u Q I rv ru ⟨ry, by rw [isNon_rep rx]; exact k.here g h rfl⟩
  | bl b =>
    cases dx with
    | bl a => exact op_notBl pins s σ H x y v u Q I rv ru ⟨a, b, rx, ry, k.here g h rfl⟩
    | _ => exact h.elim
  | _ => cases dx <;> exact h.elim
theorem od_eq (hK : X.K = K) (hu : X.A.units + 64 < cLine) : OpR X (compareOp .Eq) (rD K dEq) := fun pins s σ H x y v u Q I rv ru ⟨dx, dy, S, Z, q, g, rx, ry, ⟨⟨h1, h2, h3, h4⟩, h⟩, k⟩ => by
  subst hK
  exact op_eqD hu pins s σ H x y v u Q I rv ru ⟨py dx, py dy, Rep.dp _ _ h1 rx, Rep.dp _ _ h2 ry, Rep.shaped rx h3, Rep.shaped ry h4, k.here g h rfl⟩
theorem od_ne (hK : X.K = K) (hu : X.A.units + 64 < cLine) : OpR X (compareOp .NotEq) (rD K dNe) := fun pins s σ H x y v u Q I rv ru ⟨dx, dy, S, Z, q, g, rx, ry, ⟨⟨h1, h2, h3, h4⟩, h⟩, k⟩ => by
  subst hK
  exact op_neD hu pins s σ H x y v u Q I rv ru ⟨py dx, py dy, Rep.dp _ _ h1 rx, Rep.dp _ _ h2 ry, Rep.shaped rx h3, Rep.shaped ry h4, k.here g h rfl⟩
end
end Dn

namespace Dn
open PySem PySem.Spec PyProof.Rows L2 Pr
@[reducible] def Ift (b : Bool) (A B : Prop) : Prop := match b with
  | true => A
  | false => B
theorem ift {p A B : Prop} [Decidable p] (h1 : p → A) (h2 : ¬ p → B) : Ift (decide p) A B := by
  by_cases h : p
  · rw [decide_eq_true h]; exact h1 h
  · rw [decide_eq_false h]; exact h2 h
theorem iftN {p A B : Prop} [Decidable p] (h1 : ¬ p → A) (h2 : p → B) : Ift (!decide p) A B := by
  by_cases h : p
  · rw [decide_eq_true h]; exact h2 h
  · rw [decide_eq_false h]; exact h1 h
theorem ift_b {b : Bool} {A B : Prop} (h1 : b = true → A) (h2 : b = false → B) : Ift b A B := by
  cases b
  · exact h2 rfl
  · exact h1 rfl
theorem ift_pf {p A B : Prop} [Decidable p] (h : ¬ p) (h1 : B) : Ift (decide p) A B := by rw [decide_eq_false h]; exact h1
theorem iftN_t {p A B : Prop} [Decidable p] (h : ¬ p) (h1 : A) : Ift (!decide p) A B := by rw [decide_eq_false h]; exact h1
theorem iftN_f {p A B : Prop} [Decidable p] (h : p) (h1 : B) : Ift (!decide p) A B := by rw [decide_eq_true h]; exact h1
/-! ## truth -/
@[reducible] def dTruV (x : Dt) (S : Store) (k : Bool → Prop) : Prop := match x with
  | .non => k false
  | .bl b => k b
  | .int i => k (!decide (i = 0))
  | .str z => k (!decide (z = ""))
  | .tup l => k (!l.isEmpty)
  | .ptp l => k (!l.isEmpty)
  | .lst l => k (!l.isEmpty)
  | .dic l => False
  | .ref a => ∃ c, S a = some c ∧ (match c with
    | .lst l => k (!l.isEmpty)
    | .dic l => k (!l.isEmpty)
    | _ => False)
  | .ty _ => False
  | .obj _ _ _ => False
  | .scr _ => False
  | .lam _ _ => False
  | .gco _ _ => False
theorem str_zero {z : Str} : ((z.length : Int) != 0) = !decide (z = "") := by
  have e : (("" : Str) : Str) = ⟨#[]⟩ := by decide +kernel
  rw [e]
  obtain ⟨c⟩ := z
  by_cases h : c = #[]
  · subst h; rfl
  · have h1 : ¬ ((⟨c⟩ : Str) = ⟨#[]⟩) := fun q => h (by injection q)
    rw [decide_eq_false h1]
    show ((c.size : Int) != 0) = true
    rw [bne_iff_ne]
    intro q
    apply h
    have : c.size = 0 := by omega
    exact Array.eq_empty_of_size_eq_zero this
theorem isEmpty_len {α β : Type} {l : List α} {m : List β} (h : l.length = m.length) : m.isEmpty = l.isEmpty := by
  cases l <;> cases m <;> first | rfl | simp at h
theorem Repk.len {K : PySem.W.Frag} {G : Hp} {l : List (Key × Dt)} {vs : List (Key × V)} (h : Repk K G l vs) : l.length = vs.length := Paired.length (Repk.pair.mp h)
section
variable {K : PySem.W.Frag} {Z H : Hp} {S : Store} {v : V} {d : Dt}
theorem tru_of (g : Good K Z H S) (r : Rep K (out H S Z) d v) {k : Bool → Prop} (h : dTruV d S k) : ∃ b, k b ∧ TruV K v H b := by
  cases d with
  | non => rw [show v = _ from r]; exact ⟨_, h, rfl⟩
  | bl b => rw [show v = _ from r]; exact ⟨_, h, rfl⟩
  | int i => rw [show v = _ from r]; exact ⟨_, h, by
      show _ = (i != 0)
      by_cases z : i = 0 <;> simp [z]⟩
  | str z => rw [r.1]; exact ⟨_, h, r.2.len, str_zero.symm⟩
  | tup l =>
    obtain ⟨a, vs, rfl, h1, h2⟩ := r
    exact ⟨_, h, .inr (.inl ⟨vs, SqT.out h1, by rw [isEmpty_len h2.len]⟩)⟩
  | ptp l =>
    obtain ⟨a, vs, rfl, h1, h2⟩ := r
    exact ⟨_, h, .inr (.inl ⟨vs, SqT.out (ptp_sq h1), by rw [isEmpty_len h2.len]⟩)⟩
  | lst l =>
    obtain ⟨a, vs, rfl, h1, h2⟩ := r
    exact ⟨_, h, .inl ⟨vs, SqL.of (out_le h1), by rw [isEmpty_len h2.len]⟩⟩
  | dic l => exact h.elim
  | ref a =>
    obtain ⟨c, h1, h2⟩ := h
    rw [show v = _ from r]
    obtain ⟨o, h3, h4⟩ := g.c a _ h1
    cases c with
    | lst l => obtain ⟨vs, rfl, h5⟩ := h4; exact ⟨_, h2, .inl ⟨vs, SqL.of h3, by rw [isEmpty_len h5.len]⟩⟩
    | dic l => obtain ⟨vs, rfl, h5⟩ := h4; exact ⟨_, h2, .inr (.inr ⟨vs, h3, by rw [isEmpty_len h5.len]⟩)⟩
    | _ => exact h2.elim
  | ty _ => exact h.elim
  | obj _ _ _ => exact h.elim
  | scr _ => exact h.elim
  | lam _ _ => exact h.elim
  | gco _ _ => exact h.elim
end
@[reducible] def dTru (a : DTE) : DTT := fun δ S q => a δ S fun x S1 => dTruV x S1 fun b => q b S1
@[reducible] def dOr (a b : DTE) : DTE := fun δ S q => a δ S fun x S1 => dTruV x S1 fun k => Ift k (q x S1) (b δ S1 q)
@[reducible] def dTAnd (t u : DTT) : DTT := fun δ S q => t δ S fun c S1 => Ift c (u δ S1 q) (q false S1)
@[reducible] def dTOr (t u : DTT) : DTT := fun δ S q => t δ S fun c S1 => Ift c (q true S1) (u δ S1 q)
@[reducible] def dTNot (t : DTT) : DTT := fun δ S q => t δ S fun c S1 => q (!c) S1
@[reducible] def dIfE (t : DTT) (a b : DTE) : DTE := fun δ S q => t δ S fun c S1 => Ift c (a δ S1 q) (b δ S1 q)
@[reducible] def dChain (r r' : D2) (a b c : DTE) : DTE := fun δ S q => a δ S fun x S1 => b δ S1 fun y S2 => r x y S2 fun z S3 => ∃ k, z = .bl k ∧ Ift k (c δ S3 fun w S4 => r' y w S4 q) (q (.bl false) S3)
@[reducible] def dNeg (a : DTE) : DTE := fun δ S q => a δ S fun x S1 => match x with
  | .int i => q (.int (-i)) S1
  | _ => False
/-- few things -/
@[reducible] def Lim : List Dt → Nat → Prop → Prop
  | [], _, A => A
  | _ :: l, n + 1, A => Lim l n A
  | _ :: _, 0, _ => False
theorem Lim.le : ∀ {l : List Dt} {n : Nat} {A : Prop}, Lim l n A → l.length ≤ n ∧ A
  | [], _, _, h => ⟨Nat.zero_le _, h⟩
  | _ :: l, n + 1, A, h => by
    obtain ⟨h1, h2⟩ := Lim.le (l := l) (n := n) h
    exact ⟨Nat.succ_le_succ h1, h2⟩
  | _ :: _, 0, _, h => h.elim
@[reducible] def dTup (t : DTA) : DTE := fun δ S q => t δ S fun xs S1 => Lim xs 1000 (q (.tup xs) S1)
@[reducible] def dLst (t : DTA) : DTE := fun δ S q => t δ S fun xs S1 => Lim xs 1000 (q (.lst xs) S1)
/-- a list that will change -/
@[reducible] def dLstO (t : DTA) : DTE := fun δ S q => t δ S fun xs S1 => Lim xs 1000 (∀ p, S1 p = none → q (.ref p) (sput S1 p (.lst xs)))
@[reducible] def dNil : DTA := fun _ S q => q [] S
@[reducible] def dCons (a : DTE) (t : DTA) : DTA := fun δ S q => a δ S fun x S1 => t δ S1 fun xs S2 => q (x :: xs) S2
section
variable {X : Cx} {K : PySem.W.Frag} {E : XK} {e : DX} {pos pos' apos : Pos} {a b c ex : Expr} {es rest : List Expr} {da db dc : DTE} {ta tb : DTT} {ts : DTA}
theorem tD_seq {d : DTE} {f : Dt → Store → DK → Prop} {σ : L2.St} {H : Hp} {Q : VK} {R : V → Hp → Prop} (h : tD K E e (fun δ S q => d δ S fun x S1 => f x S1 q) σ H Q)
    (k : ∀ v x δ S Z H1 q, At K E e Z H1 S σ δ → Rep K (out H1 S Z) x v → f x S q → Ty K Z H1 S q Q → R v H1) : tD K E e d σ H R := by
  obtain ⟨δ, S, Z, q, t, h, k'⟩ := h
  exact ⟨δ, S, Z, _, t, h, fun v x H1 S1 g1 x1 r1 h1 => k v x δ S1 Z H1 q (t.to g1 x1) r1 h1 (k'.ext x1)⟩
theorem de_tru (hK : X.K = K) (ha : PE X a (tD K E e da)) (he : ∀ whole, isTrue a X.env whole = (do let v ← whole; standAt a.pos; holding [v] (truthy v)) := by intro _; rfl) : PT X a (tDT K E e (dTru da)) := PT.imp (pt_truthK hK ha he) fun σ H Q h => by
  obtain ⟨δ, S, Z, q, t, h, k⟩ := h
  refine ⟨δ, S, Z, _, t, h, fun v x H1 S1 g1 x1 r1 h1 => ?_⟩
  obtain ⟨b, h2, h3⟩ := tru_of g1 r1 h1
  exact ⟨b, h3, k b H1 S1 g1 x1 h2⟩
theorem de_or (hK : X.K = K) (ha : PE X a (tD K E e da)) (hb : PE X (.BoolOp .Or (b :: rest) pos) (tD K E e db)) : PE X (.BoolOp .Or (a :: b :: rest) pos) (tD K E e (dOr da db)) := PE.imp (pe_orT ha hb) fun σ H Q h => by
  subst hK
  obtain ⟨δ, S, Z, q, t, h, k⟩ := h
  refine ⟨δ, S, Z, _, t, h, fun v x H1 S1 g1 x1 r1 h1 => ?_⟩
  obtain ⟨b, h2, h3⟩ := tru_of g1 r1 h1
  refine ⟨b, h3, ?_⟩
  cases b with
  | true => exact iteT (k v x H1 S1 g1 x1 r1 h2)
  | false => exact iteF ⟨δ, S1, Z, q, t.to g1 x1, h2, k.ext x1⟩
theorem dt_and (ha : PT X a (tDT K E e ta)) (hb : PW X (.BoolOp .And (b :: rest) pos) (tDT K E e tb)) : PW X (.BoolOp .And (a :: b :: rest) pos) (tDT K E e (dTAnd ta tb)) := PW.imp (pw_and ha hb) fun σ H Q h => by
  obtain ⟨δ, S, Z, q, t, h, k⟩ := h
  refine ⟨δ, S, Z, _, t, h, fun c H1 S1 g1 x1 h1 => ?_⟩
  cases c with
  | true => exact iteT ⟨δ, S1, Z, q, t.to g1 x1, h1, fun b H' S' g' x' => k b H' S' g' (x1.trans x')⟩
  | false => exact iteF (k false H1 S1 g1 x1 h1)
theorem dt_or (ha : PT X a (tDT K E e ta)) (hb : PW X (.BoolOp .Or (b :: rest) pos) (tDT K E e tb)) : PW X (.BoolOp .Or (a :: b :: rest) pos) (tDT K E e (dTOr ta tb)) := PW.imp (pw_or ha hb) fun σ H Q h => by
  obtain ⟨δ, S, Z, q, t, h, k⟩ := h
  refine ⟨δ, S, Z, _, t, h, fun c H1 S1 g1 x1 h1 => ?_⟩
  cases c with
  | true => exact iteT (k true H1 S1 g1 x1 h1)
  | false => exact iteF ⟨δ, S1, Z, q, t.to g1 x1, h1, fun b H' S' g' x' => k b H' S' g' (x1.trans x')⟩
theorem dt_not (ha : PT X a (tDT K E e ta)) : PT X (.UnaryOp .Not a pos) (tDT K E e (dTNot ta)) := PT.imp (pt_not ha) fun σ H Q h => by
  obtain ⟨δ, S, Z, q, t, h, k⟩ := h
  exact ⟨δ, S, Z, _, t, h, fun c H1 S1 g1 x1 h1 => k (!c) H1 S1 g1 x1 h1⟩
theorem de_if (ht : PT X c (tDT K E e ta)) (ha : PE X a (tD K E e da)) (hb : PE X b (tD K E e db)) : PE X (.IfExp c a b pos) (tD K E e (dIfE ta da db)) := PE.imp (pe_ifExp ht ha hb) fun σ H Q h => by
  obtain ⟨δ, S, Z, q, t, h, k⟩ := h
  refine ⟨δ, S, Z, _, t, h, fun c H1 S1 g1 x1 h1 => ?_⟩
  cases c with
  | true => exact iteT ⟨δ, S1, Z, q, t.to g1 x1, h1, k.ext x1⟩
  | false => exact iteF ⟨δ, S1, Z, q, t.to g1 x1, h1, k.ext x1⟩
theorem de_neg (ha : PE X a (tD K E e da)) : PE X (.UnaryOp .USub a pos) (tD K E e (dNeg da)) := PE.imp (pe_un un_neg ha) fun σ H Q h => by
  refine tD_seq h fun v x δ S Z H1 q t r h k => ?_
  cases x with
  | int i => exact ⟨i, r, k.here t.good h rfl⟩
  | _ => exact h.elim
theorem da_nil : PA X [] (tDA K E e dNil) := PA.imp pa_nil fun σ H Q h => by
  obtain ⟨δ, S, Z, q, t, h, k⟩ := h
  exact k [] [] H S t.good Ext.refl rfl h
theorem da_cons (ha : PE X a (tD K E e da)) (hr : PA X es (tDA K E e ts)) (hs : starEach (a :: es) X.env = (false, eval a X.env) :: starEach es X.env := by rfl) : PA X (a :: es) (tDA K E e (dCons da ts)) := PA.imp (pa_cons ha hr hs) fun σ H Q h => by
  obtain ⟨δ, S, Z, q, t, h, k⟩ := h
  exact ⟨δ, S, Z, _, t, h, fun v x H1 S1 g1 x1 r1 h1 => ⟨δ, S1, Z, _, t.to g1 x1, h1, fun vs xs H2 S2 g2 x2 r2 h2 => k (v :: vs) (x :: xs) H2 S2 g2 (x1.trans x2) ⟨v, vs, rfl, Rep.ext x2 _ _ r1, r2⟩ h2⟩⟩
theorem le_line {n : Nat} (h : n ≤ 1000) : n ≤ sizeLine := Nat.le_trans h (Nat.le_of_ble_eq_true rfl)
theorem de_tup {x1} (h : PA X es (tDA K E e ts)) : PE X (.Tuple es x1 pos) (tD K E e (dTup ts)) := PE.imp (pe_tup h) fun σ H Q h => by
  obtain ⟨δ, S, Z, q, t, h, k⟩ := h
  refine ⟨δ, S, Z, _, t, h, fun vs xs H1 S1 g1 x1 r1 h1 => ?_⟩
  obtain ⟨l1, h1⟩ := h1.le
  refine ⟨by rw [← r1.len]; exact le_line l1, fun p np => (k.ext x1).new g1 np h1 ⟨p, vs, rfl, SqT.of (out_new g1 np), Reps.ext (ext_new g1 np) _ _ r1⟩⟩
theorem de_lst (h : PA X es (tDA K E e ts)) : PE X (.List es pos) (tD K E e (dLst ts)) := PE.imp (pe_lst h) fun σ H Q h => by
  obtain ⟨δ, S, Z, q, t, h, k⟩ := h
  refine ⟨δ, S, Z, _, t, h, fun vs xs H1 S1 g1 x1 r1 h1 => ?_⟩
  obtain ⟨l1, h1⟩ := h1.le
  refine ⟨by rw [← r1.len]; exact le_line l1, fun p np => (k.ext x1).new g1 np h1 ⟨p, vs, rfl, out_new g1 np, Reps.ext (ext_new g1 np) _ _ r1⟩⟩
theorem de_lstO (h : PA X es (tDA K E e ts)) : PE X (.List es pos) (tD K E e (dLstO ts)) := PE.imp (pe_lst h) fun σ H Q h => by
  obtain ⟨δ, S, Z, q, t, h, k⟩ := h
  refine ⟨δ, S, Z, _, t, h, fun vs xs H1 S1 g1 x1 r1 h1 => ?_⟩
  obtain ⟨l1, h1⟩ := h1.le
  refine ⟨by rw [← r1.len]; exact le_line l1, fun p np => (k.ext x1).own g1 np (h1 p (g1.nS np)) ⟨vs, rfl, r1⟩⟩
end
end Dn

namespace Dn
open PySem PySem.Spec PyProof.Rows L2 Pr
/-! ## dicts by keys -/
section
variable {κ : Type} [DecidableEq κ]
def kGet (l : List (κ × Dt)) (k : κ) : Option Dt := (l.find? fun p => decide (p.1 = k)).map (·.2)
def kPut (l : List (κ × Dt)) (k : κ) (d : Dt) : List (κ × Dt) := if (l.any fun p => decide (p.1 = k)) = true then l.map (fun p => if p.1 = k then (p.1, d) else p) else l ++ [(k, d)]
def kMerge (l more : List (κ × Dt)) : List (κ × Dt) := more.foldl (fun acc p => kPut acc p.1 p.2) l
def KR (ok : κ → Prop) (K : PySem.W.Frag) (G : Hp) : List (κ × Dt) → List (κ × V) → Prop := Paired fun p q => p.1 = q.1 ∧ (ok p.1 ∧ Rep K G p.2 q.2)
variable {K : PySem.W.Frag} {G G' : Hp} {ok : κ → Prop}
theorem KR.ext {l : List (κ × Dt)} {m : List (κ × V)} (h : KR ok K G l m) (e : Ext G G') : KR ok K G' l m := Paired.mapP h fun _ _ z => ⟨z.1, z.2.1, Rep.ext e _ _ z.2.2⟩
theorem KR.get : ∀ {l : List (κ × Dt)} {m : List (κ × V)} {k : κ}, KR ok K G l m → (kGet l k = none ∧ valV m k = none) ∨ ∃ d v, kGet l k = some d ∧ valV m k = some v ∧ Rep K G d v
  | [], [], k, .nil => .inl ⟨rfl, rfl⟩
  | p :: l, q :: m, k, .cons h t => by
    obtain ⟨e, _, r⟩ := h
    unfold kGet valV
    rw [List.find?_cons, List.find?_cons, ← e]
    by_cases hk : p.1 = k
    · rw [decide_eq_true hk]; exact .inr ⟨_, _, rfl, rfl, r⟩
    · rw [decide_eq_false hk]; exact KR.get t
theorem KR.any {l : List (κ × Dt)} {m : List (κ × V)} {k : κ} (h : KR ok K G l m) : (l.any fun p => decide (p.1 = k)) = m.any fun p => decide (p.1 = k) := by
  induction h with
  | nil => rfl
  | cons h t ih => rw [List.any_cons, List.any_cons, ih, h.1]
theorem KR.put {l : List (κ × Dt)} {m : List (κ × V)} {k : κ} {d : Dt} {v : V} (h : KR ok K G l m) (o : ok k) (r : Rep K G d v) : KR ok K G (kPut l k d) (putK m k v) := by
  unfold kPut putK
  rw [h.any]
  split
  · rename_i z
    clear z
    induction h with
    | nil => exact .nil
    | cons h t ih =>
      rw [List.map_cons, List.map_cons]
      refine .cons ?_ ih
      rw [← h.1]
      split
      · exact ⟨rfl, h.2.1, r⟩
      · exact h
  · exact Paired.app h (.cons ⟨rfl, o, r⟩ .nil)
theorem KR.merge {l : List (κ × Dt)} {m : List (κ × V)} : ∀ {more : List (κ × Dt)} {mm : List (κ × V)}, KR ok K G l m → KR ok K G more mm → KR ok K G (kMerge l more) (mm.foldl (fun acc kv => putK acc kv.1 kv.2) m) := fun {more mm} h hm => by
  unfold kMerge
  induction hm generalizing l m with
  | nil => exact h
  | cons q t ih =>
    rw [List.foldl_cons, List.foldl_cons, ← q.1]
    exact ih (h.put q.2.1 q.2.2)
theorem KR.len {l : List (κ × Dt)} {m : List (κ × V)} (h : KR ok K G l m) : l.length = m.length := Paired.length h
end
theorem Repk.kr {K : PySem.W.Frag} {G : Hp} {l : List (Key × Dt)} {m : List (Key × V)} : Repk K G l m ↔ KR KOk K G l m := Repk.pair
theorem Rept.kr {K : PySem.W.Frag} {G : Hp} {l : List (List Key × Dt)} {m : List (List Key × V)} : Rept K G l m ↔ KR (fun k => ∀ x ∈ k, KOk x) K G l m := Rept.pair
@[reducible] def isKeyed (x : Dt) (S : Store) (A : Prop) : Prop := match x with
  | .dic _ => A
  | .ref a => ∃ c, S a = some c ∧ (match c with
    | .dic _ => A
    | .lck _ _ => A
    | .dct _ => A
    | _ => False)
  | _ => False
@[reducible] def dGetD (x y : Dt) (S : Store) (k : Option Dt → Prop) : Prop := match y with
  | .int i => seeD x S fun l => k (kGet l (.inl i))
  | .str z => seeD x S fun l => k (kGet l (.inr z))
  | _ => False
section
variable {K : PySem.W.Frag} {Z H : Hp} {S : Store} {v w : V} {d dy : Dt}
theorem keyed_of (g : Good K Z H S) (r : Rep K (out H S Z) d v) {A : Prop} (h : isKeyed d S A) : ∃ a, v = .ref a ∧ IsD H a ∧ A := by
  cases d with
  | dic l => obtain ⟨a, vs, rfl, h1, h2⟩ := r; exact ⟨a, rfl, .inl ⟨vs, Rd.out h1⟩, h⟩
  | ref a =>
    obtain ⟨c, h1, h2⟩ := h
    obtain ⟨o, h3, h4⟩ := g.c a _ h1
    cases c with
    | dic l => obtain ⟨vs, rfl, h5⟩ := h4; exact ⟨a, r, .inl ⟨vs, .inl h3⟩, h2⟩
    | lck u l => obtain ⟨_, ob, vs, rfl, h5⟩ := h4; exact ⟨a, r, .inl ⟨vs, .inr ⟨ob, h3⟩⟩, h2⟩
    | dct l => obtain ⟨vs, rfl, h5⟩ := h4; exact ⟨a, r, .inr ⟨vs, .inl h3⟩, h2⟩
    | _ => exact h2.elim
  | _ => exact h.elim
theorem getD_of (g : Good K Z H S) (r : Rep K (out H S Z) d v) (ry : Rep K (out H S Z) dy w) {k : Option Dt → Prop} (h : dGetD d dy S k) : ∃ a o, v = .ref a ∧ k o ∧ ((o = none ∧ DGet H a w none) ∨ ∃ x u, o = some x ∧ DGet H a w (some u) ∧ Rep K (out H S Z) x u) := by
  have go : ∀ key : Key, w = kV key → (seeD d S fun l => k (kGet l key)) → ∃ a o, v = .ref a ∧ k o ∧ ((o = none ∧ DGet H a w none) ∨ ∃ x u, o = some x ∧ DGet H a w (some u) ∧ Rep K (out H S Z) x u) := fun key e h => by
    obtain ⟨a, vs, l, rfl, h1, h2, h3⟩ := see_dic g r h
    refine ⟨a, _, rfl, h3, ?_⟩
    rcases KR.get (k := key) (Repk.kr.mp h2) with ⟨e1, e2⟩ | ⟨x, u, e1, e2, e3⟩
    · exact .inl ⟨e1, .inl ⟨vs, key, h1, e, e2.symm⟩⟩
    · exact .inr ⟨x, u, e1, .inl ⟨vs, key, h1, e, e2.symm⟩, e3⟩
  cases dy with
  | int i => exact go (.inl i) ry h
  | str z => exact go (.inr z) ry.1 h
  | _ => exact h.elim
end
@[reducible] def dDget (a b : DTE) : DTE := fun δ S q => a δ S fun x S1 => b δ S1 fun y S2 => dGetD x y S2 fun o => ∃ d, o = some d ∧ q d S2
@[reducible] def dDin (b a : DTE) : DTE := fun δ S q => b δ S fun y S1 => a δ S1 fun x S2 => dGetD x y S2 fun o => q (.bl o.isSome) S2
@[reducible] def dDnotin (b a : DTE) : DTE := fun δ S q => b δ S fun y S1 => a δ S1 fun x S2 => dGetD x y S2 fun o => q (.bl (!o.isSome)) S2
@[reducible] def dDget1 (a b : DTE) : DTE := fun δ S q => a δ S fun x S1 => isKeyed x S1 (b δ S1 fun y S2 => dGetD x y S2 fun o => q (o.getD .non) S2)
@[reducible] def dDget2 (a b c : DTE) : DTE := fun δ S q => a δ S fun x S1 => isKeyed x S1 (b δ S1 fun y S2 => c δ S2 fun z S3 => dGetD x y S3 fun o => q (o.getD z) S3)
section
variable {X : Cx} {K : PySem.W.Frag} {E : XK} {e : DX} {pos pos' apos cpos : Pos} {a b c ex : Expr} {es rest : List Expr} {da db dc : DTE} {ta tb : DTT} {ts : DTA}
theorem de_dget (hu : X.A.units + 1 < cLine) (ha : PE X a (tD K E e da)) (hb : PE X b (tD K E e db)) (hs : NoSl b) : PE X (.Subscript a b pos) (tD K E e (dDget da db)) := PE.imp (pe_dget hu ha hb hs) fun σ H Q h => by
  obtain ⟨δ, S, Z, q, t, h, k⟩ := h
  refine ⟨δ, S, Z, _, t, h, fun v x H1 S1 g1 x1 r1 h1 => ⟨δ, S1, Z, _, t.to g1 x1, h1, fun w y H2 S2 g2 x2 r2 h2 => ?_⟩⟩
  obtain ⟨a, o, rfl, ⟨d, rfl, h3⟩, h4⟩ := getD_of g2 (Rep.ext x2 _ _ r1) r2 h2
  rcases h4 with ⟨h4, _⟩ | ⟨x', u, h5, h6, h7⟩
  · cases h4
  · cases h5
    exact ⟨a, u, rfl, h6, (k.ext (x1.trans x2)).here g2 h3 h7⟩
theorem de_dget1 (hu : X.A.units + 1 < cLine) (ha : PE X a (tD K E e da)) (hb : PE X b (tD K E e db)) (m : M1 X a "get" apos b cpos) : PE X (.Call (.Attribute a "get" apos) [b] [] cpos) (tD K E e (dDget1 da db)) := PE.imp (pe_dget1 hu ha hb m) fun σ H Q h => by
  obtain ⟨δ, S, Z, q, t, h, k⟩ := h
  refine ⟨δ, S, Z, _, t, h, fun v x H1 S1 g1 x1 r1 h1 => ?_⟩
  obtain ⟨a, rfl, hd, h1⟩ := keyed_of g1 r1 h1
  refine ⟨a, rfl, hd, δ, S1, Z, _, t.to g1 x1, h1, fun w y H2 S2 g2 x2 r2 h2 => ?_⟩
  obtain ⟨a', o, ea, h3, h4⟩ := getD_of g2 (Rep.ext x2 _ _ r1) r2 h2
  cases ea
  rcases h4 with ⟨rfl, h4⟩ | ⟨x', u, rfl, h6, h7⟩
  · exact ⟨_, h4, (k.ext (x1.trans x2)).here g2 h3 rfl⟩
  · exact ⟨_, h6, (k.ext (x1.trans x2)).here g2 h3 h7⟩
theorem de_dget2 (hu : X.A.units + 1 < cLine) (ha : PE X a (tD K E e da)) (hb : PE X b (tD K E e db)) (hc : PE X c (tD K E e dc)) (m : M2 X a "get" apos b c cpos) : PE X (.Call (.Attribute a "get" apos) [b, c] [] cpos) (tD K E e (dDget2 da db dc)) := PE.imp (pe_dget2 hu ha hb hc m) fun σ H Q h => by
  obtain ⟨δ, S, Z, q, t, h, k⟩ := h
  refine ⟨δ, S, Z, _, t, h, fun v x H1 S1 g1 x1 r1 h1 => ?_⟩
  obtain ⟨a, rfl, hd, h1⟩ := keyed_of g1 r1 h1
  refine ⟨a, rfl, hd, δ, S1, Z, _, t.to g1 x1, h1, fun w y H2 S2 g2 x2 r2 h2 => ⟨δ, S2, Z, _, t.to g2 (x1.trans x2), h2, fun z u H3 S3 g3 x3 r3 h3 => ?_⟩⟩
  obtain ⟨a', o, ea, h4, h5⟩ := getD_of g3 (Rep.ext (x2.trans x3) _ _ r1) (Rep.ext x3 _ _ r2) h3
  cases ea
  rcases h5 with ⟨rfl, h5⟩ | ⟨x', u, rfl, h6, h7⟩
  · exact ⟨_, h5, (k.ext (x1.trans (x2.trans x3))).here g3 h4 r3⟩
  · exact ⟨_, h6, (k.ext (x1.trans (x2.trans x3))).here g3 h4 h7⟩
@[reducible] def dNewD : DTE := fun _ S q => ∀ p, S p = none → q (.ref p) (sput S p (.dic []))
theorem de_dnewO : PE X (.Dict [] [] pos) (tD K E e dNewD) := PE.imp pe_dnewK fun σ H Q h => by
  obtain ⟨δ, S, Z, q, t, h, k⟩ := h
  exact fun p np => k.own t.good np (h p (t.good.nS np)) ⟨[], rfl, rfl⟩
end
/-! ## something that is made while it is hidden -/
section
variable {K : PySem.W.Frag} {Z H H' : Hp} {S S' : Store} {p : Addr} {o o' : HO}
theorem hide_out (g : Good K Z H S) (n : H p = none) : out (upd H p o) S (upd Z p o) = out H S Z := by
  funext b
  by_cases hb : b = p
  · subst hb
    have e1 : out (upd H b o) S (upd Z b o) b = none := by
      unfold out
      rw [if_pos]
      rw [upd_same]; exact .inr rfl
    rw [e1, out_of (g.nS n) (g.nZ n), n]
  · unfold out
    rw [upd_ne hb, upd_ne hb]
theorem Good.hide (g : Good K Z H S) (n : H p = none) (hd : Hid o := by first | exact .inl ⟨_, rfl⟩ | exact .inr ⟨_, rfl⟩) : Good K (upd Z p o) (upd H p o) S := by
  refine ⟨fun b x e => ?_, fun b x e => ?_⟩
  · by_cases hb : b = p
    · subst hb
      rw [upd_same] at e
      cases e
      exact ⟨upd_same, g.nS n, hd⟩
    · rw [upd_ne hb] at e
      rw [upd_ne hb]
      exact g.z b x e
  · rw [hide_out g n]
    obtain ⟨o', h1, h2⟩ := g.c b x e
    exact ⟨o', (upd_ne (ne_of_none h1 n)).trans h1, h2⟩
/-- what is hidden may change -/
theorem rehide_out : out (upd H p o') S (upd Z p o') = out H S (upd Z p o) := by
  funext b
  by_cases hb : b = p
  · subst hb
    unfold out
    rw [if_pos (.inr (by rw [upd_same]; rfl)), if_pos (.inr (by rw [upd_same]; rfl))]
  · unfold out
    rw [upd_ne hb, upd_ne hb, upd_ne hb]
theorem Good.rehide (g : Good K (upd Z p o) H S) (hd : Hid o' := by first | exact .inl ⟨_, rfl⟩ | exact .inr ⟨_, rfl⟩) : Good K (upd Z p o') (upd H p o') S := by
  refine ⟨fun b x e => ?_, fun b x e => ?_⟩
  · by_cases hb : b = p
    · subst hb
      rw [upd_same] at e
      cases e
      exact ⟨upd_same, (g.z b o upd_same).2.1, hd⟩
    · rw [upd_ne hb] at e
      rw [upd_ne hb]
      exact g.z b x (by rw [upd_ne hb]; exact e)
  · rw [rehide_out (o := o)]
    obtain ⟨o2, h1, h2⟩ := g.c b x e
    have hb : b ≠ p := fun z => by
      subst z
      have := (g.z b o upd_same).2.1
      rw [e] at this
      cases this
    exact ⟨o2, (upd_ne hb).trans h1, h2⟩
theorem Good.at (g : Good K (upd Z p o) H S) : H p = some o := (g.z p o upd_same).1
theorem Good.noS (g : Good K (upd Z p o) H S) : S p = none := (g.z p o upd_same).2.1
/-- it comes out -/
theorem show_ext (g : Good K (upd Z p o) H S) (nz : Z p = none) : Ext (out H S (upd Z p o)) (out (upd H p o') S Z) := Ext.of fun b x h => by
  obtain ⟨h1, h2, h3⟩ := out_some h
  have hb : b ≠ p := fun z => by rw [z, upd_same] at h2; cases h2
  rw [upd_ne hb] at h2
  rw [out_of h1 h2, upd_ne hb]
  exact h3
theorem Good.shown (g : Good K (upd Z p o) H S) (nz : Z p = none) : Good K Z (upd H p o') S := by
  refine ⟨fun b x e => ?_, fun b x e => ?_⟩
  · have hb : b ≠ p := fun z => by rw [z, nz] at e; cases e
    rw [upd_ne hb]
    exact g.z b x (by rw [upd_ne hb]; exact e)
  · obtain ⟨o2, h1, h2⟩ := g.c b x e
    have hb : b ≠ p := fun z => by
      subst z
      have := (g.z b o upd_same).2.1
      rw [e] at this
      cases this
    exact ⟨o2, (upd_ne hb).trans h1, CRep.ext (show_ext g nz) _ _ h2⟩
theorem shown_at (g : Good K (upd Z p o) H S) (nz : Z p = none) : out (upd H p o') S Z p = some o' := by
  rw [out_of g.noS nz, upd_same]
/-- what leaves while it is hidden -/
theorem Good.bare (g : Good K (upd Z p o) H S) (nz : Z p = none) : Good K Z H S := by
  have h := g.shown (o' := o) nz
  have e : upd H p o = H := by
    funext b
    by_cases hb : b = p
    · rw [hb, upd_same, g.at]
    · rw [upd_ne hb]
  rw [e] at h
  exact h
theorem bare_ext (g : Good K (upd Z p o) H S) (nz : Z p = none) : Ext (out H S (upd Z p o)) (out H S Z) := by
  have h := show_ext (o' := o) g nz
  have e : upd H p o = H := by
    funext b
    by_cases hb : b = p
    · rw [hb, upd_same, g.at]
    · rw [upd_ne hb]
  rw [e] at h
  exact h
theorem Lk.hide {E : XK} {e : DX} {G : Hp} (h : Lk K E e Z G) (nz : Z p = none) : Lk K E e (upd Z p o) G := fun c H' S' g x q => h c H' S' (g.bare nz) (x.trans (bare_ext g nz)) q
end
end Dn

namespace Dn
open PySem PySem.Spec PyProof.Rows L2 Pr
/-! ## written dicts -/
@[reducible] def keyOf (x : Dt) (k : Key → Prop) : Prop := match x with
  | .int i => k (.inl i)
  | .str z => k (.inr z)
  | _ => False
@[reducible] def dPairs : List (DTE × DTE) → DS → Store → (List (Key × Dt) → Store → Prop) → Prop
  | [], _, S, q => q [] S
  | (k, v) :: r, δ, S, q => k δ S fun x S1 => v δ S1 fun y S2 => keyOf x fun key => dPairs r δ S2 fun ps S3 => q ((key, y) :: ps) S3
@[reducible] def dDisp (trs : List (DTE × DTE)) : DTE := fun δ S q => dPairs trs δ S fun ps S1 => q (.dic (kMerge [] ps)) S1
section
variable {X : Cx} {K : PySem.W.Frag} {E : XK} {e : DX} {pos pos' apos cpos : Pos} {a b c ex : Expr} {es rest : List Expr} {da db dc : DTE} {ta tb : DTT} {ts : DTA} {keys : List (Option Expr)} {values : List Expr}
theorem keyOf_rep {G : Hp} {x : Dt} {v : V} (r : Rep K G x v) {k : Key → Prop} (h : keyOf x k) : ∃ key, v = kV key ∧ KOk key ∧ k key := by
  cases x with
  | int i => exact ⟨.inl i, r, trivial, h⟩
  | str z => exact ⟨.inr z, r.1, r.2, h⟩
  | _ => exact h.elim
theorem pairs_run : ∀ (trs : List (DTE × DTE)) (σ : L2.St) (δ : DS) (H : Hp) (S : Store) (Z : Hp) (q : List (Key × Dt) → Store → Prop) (Q : List (V × V) → Hp → Prop), At K E e Z H S σ δ → dPairs trs δ S q →
    (∀ (kvs : List (Key × V)) (ds : List (Key × Dt)) H' S', Good K Z H' S' → Ext (out H S Z) (out H' S' Z) → KR KOk K (out H' S' Z) ds kvs → kvs.length = trs.length → q ds S' → Q (kvs.map fun kv => (kV kv.1, kv.2)) H') → tPairs (trs.map fun p => (tD K E e p.1, tD K E e p.2)) σ H Q
  | [], σ, δ, H, S, Z, q, Q, t, h, k => k [] [] H S t.good Ext.refl .nil rfl h
  | (a, b) :: r, σ, δ, H, S, Z, q, Q, t, h, k => by
    refine ⟨δ, S, Z, _, t, h, fun v x H1 S1 g1 x1 r1 h1 => ⟨δ, S1, Z, _, t.to g1 x1, h1, fun w y H2 S2 g2 x2 r2 h2 => ?_⟩⟩
    obtain ⟨key, e1, ko, h3⟩ := keyOf_rep r1 h2
    refine pairs_run r σ δ H2 S2 Z _ _ (t.to g2 (x1.trans x2)) h3 fun kvs ds H3 S3 g3 x3 r3 l3 h4 => ?_
    subst e1
    exact k ((key, w) :: kvs) ((key, y) :: ds) H3 S3 g3 (x1.trans (x2.trans x3)) (.cons ⟨rfl, ko, Rep.ext x3 _ _ r2⟩ r3) (congrArg (· + 1) l3) h4
theorem de_disp {trs : List (DTE × DTE)} (h : PPs X pos keys values (trs.map fun p => (tD K E e p.1, tD K E e p.2))) (hall : keys.all (·.isSome) = true) (hl : keys.length = values.length) (h0 : keys ≠ []) (h15 : keys.length ≤ 15) (hn : trs.length ≤ 15 := by decide) :
    PE X (.Dict keys values pos) (tD K E e (dDisp trs)) := PE.imp (pe_disp h hall hl h0 h15) fun σ H Q h => by
  obtain ⟨δ, S, Z, q, t, h, k⟩ := h
  intro p np
  have g0 := t.good.hide (o := .dK []) np
  have nz := t.good.nZ np
  have o0 := hide_out (o := HO.dK []) t.good np
  refine pairs_run trs σ δ _ S (upd Z p (.dK [])) _ _ ⟨g0, by rw [o0]; exact t.sl, by rw [o0]; exact t.lk.hide nz⟩ h fun kvs ds H1 S1 g1 x1 r1 l1 h1 => ?_
  rw [o0] at x1
  refine ⟨g1.at, kvs, rfl, by omega, ?_⟩
  refine k _ (.dic (kMerge [] ds)) _ S1 (g1.shown nz) (x1.trans (show_ext g1 nz)) ⟨p, _, rfl, .inl (shown_at g1 nz), ?_⟩ h1
  exact Repk.kr.mpr (KR.merge .nil (r1.ext (show_ext g1 nz)))
theorem dps_nil : PPs X pos [] [] (([] : List (DTE × DTE)).map fun p => (tD K E e p.1, tD K E e p.2)) := pps_nil
theorem dps_cons {ks : List (Option Expr)} {vs : List Expr} {trs : List (DTE × DTE)} (ha : PE X a (tD K E e da)) (hb : PE X b (tD K E e db)) (hr : PPs X pos ks vs (trs.map fun p => (tD K E e p.1, tD K E e p.2))) :
    PPs X pos (some a :: ks) (b :: vs) (((da, db) :: trs).map fun p => (tD K E e p.1, tD K E e p.2)) := pps_cons ha hb hr
end
/-! ## items and parts -/
@[reducible] def dAtN : List Dt → Nat → (Dt → Prop) → Prop
  | x :: _, 0, k => k x
  | _ :: l, n + 1, k => dAtN l n k
  | [], _, _ => False
theorem dAtN.get : ∀ {l : List Dt} {n : Nat} {k : Dt → Prop}, dAtN l n k → ∃ d, l[n]? = some d ∧ k d
  | [], _, _, h => h.elim
  | x :: _, 0, k, h => ⟨x, rfl, h⟩
  | _ :: l, n + 1, k, h => by
    obtain ⟨d, h1, h2⟩ := dAtN.get (l := l) h
    exact ⟨d, by simpa using h1, h2⟩
/-- x[3], a written number -/
@[reducible] def dIxC (a : DTE) (n : Nat) : DTE := fun δ S q => a δ S fun x S1 => match x with
  | .str z => ∃ c, z.cps.toList[n]? = some c ∧ q (.str ⟨#[c]⟩) S1
  | x => seeQ x S1 fun l => dAtN l n fun d => q d S1
@[reducible] def rIx : D2 := fun x y S q => match x, y with
  | .str z, .int i => ∃ c, atI z.cps.toList i = some c ∧ q (.str ⟨#[c]⟩) S
  | x, .int i => seeQ x S fun l => ∃ d, atI l i = some d ∧ q d S
  | _, _ => False
def cutD (l : List Dt) (lo hi : Option Int) : List Dt := (l.drop (HT.sIx l.length 0 lo)).take (HT.sIx l.length l.length hi - HT.sIx l.length 0 lo)
@[reducible] def rSl (x : Dt) (lo hi : Option Int) (S : Store) (q : DK) : Prop := match x with
  | .str z => q (.str (cutS z lo hi)) S
  | .tup l => q (.tup (cutD l lo hi)) S
  | .scr ns => q (.lst (cutD (ns.map Dt.int) lo hi)) S
  | x => seeL x S fun l => q (.lst (cutD l lo hi)) S
abbrev DTO := DS → Store → (Option Int → Store → Prop) → Prop
def tDO (K : PySem.W.Frag) (E : XK) (e : DX) (d : DTO) : TO := fun σ H Q => ∃ δ S Z q, At K E e Z H S σ δ ∧ d δ S q ∧ ∀ i H' S', Good K Z H' S' → Ext (out H S Z) (out H' S' Z) → q i S' → Q i H'
@[reducible] def dNoPart : DTO := fun _ S q => q none S
@[reducible] def dPart (a : DTE) : DTO := fun δ S q => a δ S fun x S1 => match x with
  | .int i => q (some i) S1
  | _ => False
@[reducible] def dSl (a : DTE) (lo hi : DTO) : DTE := fun δ S q => a δ S fun x S1 => lo δ S1 fun l S2 => hi δ S2 fun h S3 => rSl x l h S3 q
def rDS (K : PySem.W.Frag) (x : V) (lo hi : Option Int) (H : Hp) (Q : VK) : Prop := ∃ d S Z q, Good K Z H S ∧ Rep K (out H S Z) d x ∧ rSl d lo hi S q ∧ Ty K Z H S q Q
theorem atI_pair {α β : Type} {F : α → β → Prop} {l : List α} {m : List β} {i : Int} {x : α} (h : Paired F l m) (e : atI l i = some x) : ∃ y, atI m i = some y ∧ F x y := by
  unfold atI at e ⊢
  rw [← Paired.length h]
  cases hi : ixN l.length i with
  | none => rw [hi] at e; cases e
  | some j =>
    rw [hi] at e
    exact Paired.get h e
theorem atI_mem {α : Type} {l : List α} {i : Int} {x : α} (e : atI l i = some x) : x ∈ l := by
  unfold atI at e
  cases hi : ixN l.length i with
  | none => rw [hi] at e; cases e
  | some j => rw [hi] at e; exact List.mem_of_getElem? e
theorem cutV_pair {K : PySem.W.Frag} {G : Hp} {l : List Dt} {vs : List V} {lo hi : Option Int} (h : Reps K G l vs) : Reps K G (cutD l lo hi) (cutV vs lo hi) := by
  unfold cutD cutV
  show Reps K G _ ((vs.drop (HT.sIx vs.length 0 lo)).take (HT.sIx vs.length vs.length hi - HT.sIx vs.length 0 lo))
  rw [← h.len]
  exact Reps.pair.mpr (Paired.take _ (Paired.drop _ (Reps.pair.mp h)))
section
variable {X : Cx} {K : PySem.W.Frag} {E : XK} {e : DX} {pos pos' apos cpos p2 : Pos} {a b c ex : Expr} {es rest : List Expr} {da db dc : DTE} {ta tb : DTT} {ts : DTA} {lo hi : Option Expr} {dl dh : DTO}
theorem ix_D (hK : X.K = K) : IxR X (rD K rIx) := by
  subst hK
  intro value slice pins s σ H x y v u Q I rv ru h sub
  obtain ⟨dx, dy, S, Z, q, g, rx, ry, h, k⟩ := h
  have seq : ∀ i : Int, y = .int i → (seeQ dx S fun l => ∃ d, atI l i = some d ∧ q d S) → wpAny (model X.prog X.w) X.A (subscriptTail value slice v u) (EP X pins σ Q) X.xe s := fun i ei h0 => by
    obtain ⟨p, vs, l, rfl, hp, hl, d, hd, hq⟩ := see_seq g rx h0
    obtain ⟨y', h1, h2⟩ := atI_pair (Reps.pair.mp hl) hd
    rcases hp with hp | hp
    · exact ix_list value slice pins s σ H _ y v u Q I rv ru ⟨p, vs, i, y', rfl, ei, hp, h1, k.here g hq h2⟩ sub
    · exact ix_tup value slice pins s σ H _ y v u Q I rv ru ⟨p, vs, i, y', rfl, ei, hp, h1, k.here g hq h2⟩ sub
  cases dy with
  | int i =>
    cases dx with
    | str z =>
      obtain ⟨c, hc, hq⟩ := h
      exact ix_str value slice pins s σ H x y v u Q I rv ru ⟨z, i, c, rx.1, ry, rx.2.len, hc, k.here g hq ⟨rfl, rx.2.sign (atI_mem hc)⟩⟩ sub
    | _ => exact seq i ry h
  | _ => cases dx <;> exact h.elim
theorem de_ix (hK : X.K = K) (ha : PE X a (tD K E e da)) (hb : PE X b (tD K E e db)) (hs : PlainIx b := by exact fun _ _ => rfl) : PE X (.Subscript a b pos) (tD K E e (dOp rIx da db)) := PE.imp (pe_ix (ix_D hK) ha hb hs) fun _ _ _ h => tD_op h
theorem de_ixC (hK : X.K = K) {n : Nat} {j} (ha : PE X a (tD K E e da)) (hs : PlainIx (.Constant (.int (n : Int)) j p2) := by exact fun _ _ => rfl) : PE X (.Subscript a (.Constant (.int (n : Int)) j p2) pos) (tD K E e (dIxC da n)) := PE.imp (pe_ix (ix_D hK) ha pe_int hs) fun σ H Q h => by
  refine tD_seq (f := fun x S q => match x with
    | .str z => ∃ c, z.cps.toList[n]? = some c ∧ q (.str ⟨#[c]⟩) S
    | x => seeQ x S fun l => dAtN l n fun d => q d S) h fun v x δ S Z H1 q t r h k => ?_
  refine ⟨x, .int n, S, Z, q, t.good, r, rfl, ?_, k⟩
  cases x with
  | str z => obtain ⟨c, h1, h2⟩ := h; exact ⟨c, atI_nat h1, h2⟩
  | lst l => obtain ⟨d, h1, h2⟩ := dAtN.get h; exact ⟨d, atI_nat h1, h2⟩
  | tup l => obtain ⟨d, h1, h2⟩ := dAtN.get h; exact ⟨d, atI_nat h1, h2⟩
  | ptp l => obtain ⟨d, h1, h2⟩ := dAtN.get h; exact ⟨d, atI_nat h1, h2⟩
  | ref a => obtain ⟨l, h0, h⟩ := h; obtain ⟨d, h1, h2⟩ := dAtN.get h; exact ⟨l, h0, d, atI_nat h1, h2⟩
  | _ => exact h.elim
theorem sl_D (hK : X.K = K) : SlR X (rDS K) := by
  subst hK
  intro pins s σ H x v vl vu lo hi sl Q I rv is pl ph h
  obtain ⟨d, S, Z, q, g, r, h, k⟩ := h
  have lists : (seeL d S fun l => q (.lst (cutD l lo hi)) S) → ∃ T id, typeLookup (.type T) "__getitem__" = pure (some (.builtin id)) ∧ s.TypeIs v T ∧ wpAny (model X.prog X.w) X.A (getItem v (.ref sl)) (EP X pins σ Q) X.xe s := fun h => by
    obtain ⟨p, vs, l, rfl, hp, hl, hq⟩ := see_lst g r h
    exact sl_list pins s σ H _ v vl vu lo hi sl Q I rv is pl ph ⟨p, vs, rfl, SqL.of hp, fun p np => k.new g np hq ⟨p, _, rfl, out_new g np, cutV_pair (Reps.ext (ext_new g np) _ _ hl)⟩⟩
  cases d with
  | str z => exact sl_str pins s σ H x v vl vu lo hi sl Q I rv is pl ph ⟨z, r.1, r.2.len, k.here g h ⟨rfl, r.2.sub (fun c hc => List.mem_of_mem_drop (List.mem_of_mem_take (by
      unfold cutS at hc; simpa using hc))) (by
      rw [len_cps, len_cps]; unfold cutS; simp; omega)⟩⟩
  | tup l =>
    obtain ⟨p, vs, rfl, hp, hl⟩ := r
    refine sl_tupA pins s σ H _ v vl vu lo hi sl Q I rv is pl ph ⟨p, vs, rfl, SqT.out hp, fun hw => ?_, fun hw p np => ?_⟩
    · have e : cutD l lo hi = l := by
        obtain ⟨h1, h2⟩ := hw
        have h1 : HT.sIx vs.length 0 lo = 0 := h1
        have h2 : HT.sIx vs.length vs.length hi = vs.length := h2
        unfold cutD
        rw [hl.len, h1, h2]
        simp [← hl.len]
      have h : q (.tup (cutD l lo hi)) S := h
      rw [e] at h
      exact k.here g h ⟨p, vs, rfl, hp, hl⟩
    · exact k.new g np h ⟨p, _, rfl, SqT.of (out_new g np), cutV_pair (Reps.ext (ext_new g np) _ _ hl)⟩
  | scr ns =>
    obtain ⟨a, rfl, h1⟩ := r
    have h2 : SqL X.K H a (ns.map V.int) := by
      rcases h1 with (h1 | ⟨ob, h1⟩) | h1
      · exact .inl (.inl (out_le h1))
      · exact .inl (.inr ⟨ob, out_le h1⟩)
      · exact .inr h1
    have ri : ∀ (l : List Int) (G : Hp), Reps X.K G (l.map Dt.int) (l.map V.int) := fun l G => by
      induction l with
      | nil => exact rfl
      | cons x l ih => exact ⟨_, _, rfl, rfl, ih⟩
    exact sl_list pins s σ H _ v vl vu lo hi sl Q I rv is pl ph ⟨a, _, rfl, h2, fun p np => k.new g np h ⟨p, _, rfl, out_new g np, cutV_pair (ri ns _)⟩⟩
  | _ => exact lists h
theorem do_none : PO X none (tDO K E e dNoPart) := ⟨fun pins s σ H Q I h => by
  obtain ⟨δ, S, Z, q, t, h, k⟩ := h
  exact po_none.run pins s σ H Q I (k none H S t.good Ext.refl h)⟩
theorem do_some (ha : PE X a (tD K E e da)) : PO X (some a) (tDO K E e (dPart da)) := ⟨fun pins s σ H Q I h => by
  refine (po_some ha).run pins s σ H Q I ?_
  obtain ⟨δ, S, Z, q, t, h, k⟩ := h
  refine ⟨δ, S, Z, _, t, h, fun v x H1 S1 g1 x1 r1 h1 => ?_⟩
  cases x with
  | int i => exact ⟨i, r1, k (some i) H1 S1 g1 x1 h1⟩
  | _ => exact h1.elim⟩
theorem de_sl (hK : X.K = K) (ha : PE X a (tD K E e da)) (hl : PO X lo (tDO K E e dl)) (hh : PO X hi (tDO K E e dh)) : PE X (.Subscript a (.Slice lo hi none p2) pos) (tD K E e (dSl da dl dh)) := PE.imp (pe_slice (sl_D hK) ha hl hh) fun σ H Q h => by
  obtain ⟨δ, S, Z, q, t, h, k⟩ := h
  exact ⟨δ, S, Z, _, t, h, fun v x H1 S1 g1 x1 r1 h1 => ⟨δ, S1, Z, _, t.to g1 x1, h1, fun i H2 S2 g2 x2 h2 => ⟨δ, S2, Z, _, t.to g2 (x1.trans x2), h2, fun j H3 S3 g3 x3 h3 => ⟨x, S3, Z, q, g3, Rep.ext (x2.trans x3) _ _ r1, h3, k.ext (x1.trans (x2.trans x3))⟩⟩⟩⟩
end
end Dn

namespace Dn
open PySem PySem.Spec PyProof.Rows L2 Pr
/-! ## attributes -/
structure FldI (K : PySem.W.Frag) (C : Addr) (nm : List Str) (f : Str) (i : Nat) : Prop where
  cls : Cls K C
  no : NoAttr K C f
  nd : nm.Nodup
  at' : nm[i]? = some f
  few : nm.length < 1000
@[reducible] def seeO (C : Addr) (nm : List Str) (x : Dt) (S : Store) (k : List Dt → Prop) : Prop := match x with
  | .obj C' nm' l => (C' = C ∧ nm' = nm) ∧ k l
  | .ref a => ∃ l, S a = some (.ins C nm l) ∧ k l
  | _ => False
@[reducible] def dFld (C : Addr) (nm : List Str) (i : Nat) (a : DTE) : DTE := fun δ S q => a δ S fun x S1 => seeO C nm x S1 fun l => dAtN l i fun d => q d S1
@[reducible] def putAt : List Dt → Nat → Dt → (List Dt → Prop) → Prop
  | [], 0, y, k => k [y]
  | _ :: l, 0, y, k => k (y :: l)
  | x :: l, n + 1, y, k => putAt l n y fun r => k (x :: r)
  | [], _ + 1, _, _ => False
theorem putAt.of : ∀ {l : List Dt} {n : Nat} {y : Dt} {k : List Dt → Prop}, putAt l n y k → (n < l.length ∧ k (l.set n y)) ∨ (n = l.length ∧ k (l ++ [y]))
  | [], 0, y, k, h => .inr ⟨rfl, h⟩
  | x :: l, 0, y, k, h => .inl ⟨Nat.succ_pos _, h⟩
  | x :: l, n + 1, y, k, h => by
    rcases putAt.of (l := l) (n := n) h with ⟨h1, h2⟩ | ⟨h1, h2⟩
    · exact .inl ⟨Nat.succ_lt_succ h1, h2⟩
    · exact .inr ⟨congrArg (· + 1) h1, h2⟩
  | [], _ + 1, _, _, h => h.elim
/-- o.f = e -/
@[reducible] def dSetF (C : Addr) (nm : List Str) (i : Nat) (o v : DTE) : DTS := fun D δ S => v δ S fun y S1 => o δ S1 fun x S2 => match x with
  | .ref a => ∃ l, S2 a = some (.ins C nm l) ∧ putAt l i y fun l' => D.nx δ (sput S2 a (.ins C nm l'))
  | _ => False
/-- o.f op= e -/
@[reducible] def dAugF (C : Addr) (nm : List Str) (i : Nat) (dr : D2) (o v : DTE) : DTS := fun D δ S => o δ S fun x S1 => match x with
  | .ref a => ∃ l, S1 a = some (.ins C nm l) ∧ dAtN l i fun d => v δ S1 fun y S2 => dr d y S2 fun z S3 => ∃ l', S3 a = some (.ins C nm l') ∧ putAt l' i z fun l'' => D.nx δ (sput S3 a (.ins C nm l''))
  | _ => False
section
variable {K : PySem.W.Frag} {G : Hp}
theorem lookup_zip : ∀ {nm : List Str} {n i : Nat} {vs : List V} {f : Str} {v : V}, nm.Nodup → nm[i]? = some f → vs[i]? = some v → i < n → ((nm.take n).zip vs).lookup f = some v
  | [], _, _, _, _, _, _, h, _, _ => by simp at h
  | x :: nm, 0, _, _, _, _, _, _, _, h => absurd h (Nat.not_lt_zero _)
  | x :: nm, n + 1, i, [], _, _, _, _, h, _ => by simp at h
  | x :: nm, n + 1, 0, v' :: vs, f, v, nd, h1, h2, _ => by
    simp at h1 h2
    subst h1 h2
    show ((x, v') :: ((nm.take n).zip vs)).lookup x = some v'
    rw [List.lookup_cons_self]
  | x :: nm, n + 1, i + 1, v' :: vs, f, v, nd, h1, h2, h3 => by
    have h1 : nm[i]? = some f := by simpa using h1
    have nx : f ≠ x := fun e => (List.nodup_cons.mp nd).1 (e ▸ List.mem_of_getElem? h1)
    show ((x, v') :: ((nm.take n).zip vs)).lookup f = some v
    rw [List.lookup_cons, show (f == x) = false from by simpa using nx]
    exact lookup_zip (List.nodup_cons.mp nd).2 h1 (by simpa using h2) (Nat.lt_of_succ_lt_succ h3)
theorem putF_zip_set : ∀ {nm : List Str} {n i : Nat} {vs : List V} {f : Str} {y : V}, nm.Nodup → nm[i]? = some f → i < n → vs.length = n → n ≤ nm.length → putF f y ((nm.take n).zip vs) = (nm.take n).zip (vs.set i y)
  | [], _, _, _, _, _, _, h, _, _, _ => by simp at h
  | x :: nm, 0, _, _, _, _, _, _, h, _, _ => absurd h (Nat.not_lt_zero _)
  | x :: nm, n + 1, i, [], _, _, _, _, _, h, _ => by simp at h
  | x :: nm, n + 1, 0, v' :: vs, f, y, nd, h1, h2, _, _ => by
    simp at h1
    subst h1
    show putF x y ((x, v') :: ((nm.take n).zip vs)) = (x, y) :: ((nm.take n).zip vs)
    unfold putF
    rw [if_pos rfl]
  | x :: nm, n + 1, i + 1, v' :: vs, f, y, nd, h1, h2, h3, h4 => by
    have h1 : nm[i]? = some f := by simpa using h1
    have nx : ¬ x = f := fun e => (List.nodup_cons.mp nd).1 (e ▸ List.mem_of_getElem? h1)
    show putF f y ((x, v') :: ((nm.take n).zip vs)) = (x, v') :: ((nm.take n).zip (vs.set i y))
    unfold putF
    rw [if_neg nx, putF_zip_set (List.nodup_cons.mp nd).2 h1 (Nat.lt_of_succ_lt_succ h2) (by simpa using h3) (by simpa using h4)]
theorem putF_zip_new : ∀ {nm : List Str} {n : Nat} {vs : List V} {f : Str} {y : V}, nm.Nodup → nm[n]? = some f → vs.length = n → putF f y ((nm.take n).zip vs) = (nm.take (n + 1)).zip (vs ++ [y])
  | [], _, _, _, _, _, h, _ => by simp at h
  | x :: nm, 0, [], f, y, nd, h1, _ => by
    simp at h1
    subst h1
    rfl
  | x :: nm, 0, _ :: _, _, _, _, _, h => by simp at h
  | x :: nm, n + 1, [], _, _, _, _, h => by simp at h
  | x :: nm, n + 1, v' :: vs, f, y, nd, h1, h3 => by
    have h1 : nm[n]? = some f := by simpa using h1
    have nx : ¬ x = f := fun e => (List.nodup_cons.mp nd).1 (e ▸ List.mem_of_getElem? h1)
    show putF f y ((x, v') :: ((nm.take n).zip vs)) = (x, v') :: ((nm.take (n + 1)).zip (vs ++ [y]))
    unfold putF
    rw [if_neg nx, putF_zip_new (List.nodup_cons.mp nd).2 h1 (by simpa using h3)]
theorem put_ins {nm : List Str} {l : List Dt} {vs : List V} {i : Nat} {f : Str} {y : V} {d : Dt} {k : List Dt → Prop} {C dx : Addr} (nd : nm.Nodup) (hf : nm[i]? = some f) (r : Reps K G l vs) (rd : Rep K G d y) (ln : l.length ≤ nm.length) (h : putAt l i d k) :
    ∃ l', k l' ∧ CRep K G (.ins C nm l') (.ins C dx (putF f y ((nm.take l.length).zip vs))) := by
  rcases putAt.of h with ⟨h1, h2⟩ | ⟨h1, h2⟩
  · refine ⟨_, h2, dx, vs.set i y, ?_, Reps.pair.mpr (Paired.setp rd i (Reps.pair.mp r)), by rw [List.length_set]; exact ln⟩
    rw [putF_zip_set nd hf h1 r.len.symm ln, List.length_set]
  · subst h1
    refine ⟨_, h2, dx, vs ++ [y], ?_, Reps.pair.mpr (Paired.app (Reps.pair.mp r) (.cons rd .nil)), ?_⟩
    · rw [putF_zip_new nd hf r.len.symm, List.length_append]
      rfl
    · have := (List.getElem?_eq_some_iff.mp hf).1
      rw [List.length_append]
      exact this
variable {Z H : Hp} {S : Store} {v : V} {d : Dt} {C : Addr} {nm : List Str}
theorem seeO_of (g : Good K Z H S) (r : Rep K (out H S Z) d v) {k : List Dt → Prop} (h : seeO C nm d S k) : ∃ a dx vs l, v = .ref a ∧ H a = some (.ins C dx ((nm.take l.length).zip vs)) ∧ Reps K (out H S Z) l vs ∧ l.length ≤ nm.length ∧ k l := by
  cases d with
  | obj C' nm' l =>
    obtain ⟨⟨rfl, rfl⟩, h⟩ := h
    obtain ⟨a, dx, vs, rfl, h1, h2, h3⟩ := r
    exact ⟨a, dx, vs, l, rfl, out_le h1, h2, h3, h⟩
  | ref a =>
    obtain ⟨l, h1, h2⟩ := h
    obtain ⟨o, h3, dx, vs, rfl, h4, h5⟩ := g.c a _ h1
    exact ⟨a, dx, vs, l, r, h3, h4, h5, h2⟩
  | _ => exact h.elim
theorem zip_len {l : List Dt} {vs : List V} (r : Reps K G l vs) (h : nm.length < 1000) : ((nm.take l.length).zip vs).length < 1000 := by
  rw [List.length_zip, List.length_take]
  omega
end
section
variable {X : Cx} {K : PySem.W.Frag} {E : XK} {e : DX} {pos pos' apos cpos p2 tpos : Pos} {a b c o ex value : Expr} {es rest : List Expr} {da db dc dw : DTE} {ta tb : DTT} {ts : DTA} {C : Addr} {nm : List Str} {f : Str} {i : Nat}
theorem de_fld (hK : X.K = K) (F : FldI K C nm f i) (ha : PE X o (tD K E e da)) (hb : attributeBase o f X.env (eval o X.env) = eval o X.env := by rfl) : PE X (.Attribute o f pos) (tD K E e (dFld C nm i da)) := PE.imp (pe_fldK hK ha hb) fun σ H Q h => by
  obtain ⟨δ, S, Z, q, t, h, k⟩ := h
  refine ⟨δ, S, Z, _, t, h, fun v x H1 S1 g1 x1 r1 h1 => ?_⟩
  obtain ⟨a, dx, vs, l, rfl, h2, h3, h4, h5⟩ := seeO_of g1 r1 h1
  obtain ⟨d, h6, h7⟩ := dAtN.get h5
  obtain ⟨v', h8, h9⟩ := Paired.get (Reps.pair.mp h3) h6
  exact ⟨a, C, dx, _, v', rfl, h2, F.cls, F.no, lookup_zip F.nd F.at' h8 (List.getElem?_eq_some_iff.mp h6).1, (k.ext x1).here g1 h7 h9⟩
theorem ds_fld (hK : X.K = K) (F : FldI K C nm f i) (ha : PE X o (tD K E e da)) (hv : PE X value (tD K E e dw)) (hs : swapsWith value (some (.Attribute o f pos')) pos.line X.env = pure false := by rfl) :
    PS X (.Assign [.Attribute o f pos'] value pos) (tDS K E e (dSetF C nm i da dw)) := PS.imp (ps_fldK hK ha hv hs) fun D σ H h => by
  obtain ⟨δ, S, Z, DD, t, h, k⟩ := h
  refine ⟨δ, S, Z, _, t, h, fun v x H1 S1 g1 x1 r1 h1 => ⟨δ, S1, Z, _, t.to g1 x1, h1, fun w y H2 S2 g2 x2 r2 h2 => ?_⟩⟩
  cases y with
  | ref a =>
    obtain ⟨l, h3, h4⟩ := h2
    obtain ⟨ob, h5, dx, vs, rfl, h6, h7⟩ := g2.c a _ h3
    obtain ⟨l', h8, h9⟩ := put_ins (C := C) (dx := dx) F.nd F.at' h6 (Rep.ext x2 _ _ r1) h7 h4
    refine ⟨a, C, dx, _, r2, h5, F.cls, F.no, zip_len h6 F.few, ?_⟩
    have xx := x1.trans x2
    exact k.nx _ _ _ _ (g2.mut h3 h9) (by rw [out_mut h3]; exact xx) (by rw [out_mut h3]; exact t.sl.ext xx) h8
  | _ => exact h2.elim
theorem ds_fldaug (hK : X.K = K) (F : FldI K C nm f i) {op : Operator} {dr : D2} (ho : InOp X op (rD K dr)) (ha : PE X o (tD K E e da)) (hv : PE X value (tD K E e dw)) :
    PS X (.AugAssign (.Attribute o f tpos) op value pos) (tDS K E e (dAugF C nm i dr da dw)) := PS.imp (ps_fldaugK hK ha hv ho) fun D σ H h => by
  obtain ⟨δ, S, Z, DD, t, h, k⟩ := h
  refine ⟨δ, S, Z, _, t, h, fun v x H1 S1 g1 x1 r1 h1 => ?_⟩
  cases x with
  | ref a =>
    obtain ⟨l, h3, h4⟩ := h1
    obtain ⟨ob, h5, dx, vs, rfl, h6, h7⟩ := g1.c a _ h3
    obtain ⟨d, h8, h9⟩ := dAtN.get h4
    obtain ⟨v', h10, h11⟩ := Paired.get (Reps.pair.mp h6) h8
    refine ⟨a, C, dx, _, v', r1, h5, F.cls, F.no, lookup_zip F.nd F.at' h10 (List.getElem?_eq_some_iff.mp h8).1, δ, S1, Z, _, t.to g1 x1, h9, fun w y H2 S2 g2 x2 r2 h12 => ?_⟩
    refine ⟨d, y, S2, Z, _, g2, Rep.ext x2 _ _ h11, r2, h12, fun u z H3 S3 g3 x3 r3 h13 => ?_⟩
    obtain ⟨l', h14, h15⟩ := h13
    obtain ⟨ob, h16, dx', vs', rfl, h17, h18⟩ := g3.c a _ h14
    obtain ⟨l'', h19, h20⟩ := put_ins (C := C) (dx := dx') F.nd F.at' h17 r3 h18 h15
    have xx := x1.trans (x2.trans x3)
    exact ⟨dx', _, h16, zip_len h17 F.few, k.nx _ _ _ _ (g3.mut h14 h20) (by rw [out_mut h14]; exact xx) (by rw [out_mut h14]; exact t.sl.ext xx) h19⟩
  | _ => exact h1.elim
end
/-! ## calls of what is built in -/
abbrev DCr := List Dt → Store → DK → Prop
def rDC (K : PySem.W.Frag) (dr : DCr) : List V → Hp → VK → Prop := fun xs H Q => ∃ ds S Z q, Good K Z H S ∧ Reps K (out H S Z) ds xs ∧ dr ds S q ∧ Ty K Z H S q Q
@[reducible] def dCB (dr : DCr) (t : DTA) : DTE := fun δ S q => t δ S fun xs S1 => dr xs S1 q
abbrev DMr := Dt → List Dt → Store → DK → Prop
def rDM (K : PySem.W.Frag) (dr : DMr) : V → List V → Hp → VK → Prop := fun x xs H Q => ∃ d ds S Z q, Good K Z H S ∧ Rep K (out H S Z) d x ∧ Reps K (out H S Z) ds xs ∧ dr d ds S q ∧ Ty K Z H S q Q
@[reducible] def isTx (x : Dt) (S : Store) (A : Prop) : Prop := match x with
  | .str _ => A
  | _ => False
@[reducible] def isLs (x : Dt) (S : Store) (A : Prop) : Prop := match x with
  | .lst _ => A
  | .ref a => ∃ l, S a = some (.lst l) ∧ A
  | _ => False
@[reducible] def dMt (is : Dt → Store → Prop → Prop) (dr : DMr) (o : DTE) (t : DTA) : DTE := fun δ S q => o δ S fun x S1 => is x S1 (t δ S1 fun xs S2 => dr x xs S2 q)
def IsTyp (K : PySem.W.Frag) (T : String) (is : Dt → Store → Prop → Prop) : Prop := ∀ (Z H : Hp) (S : Store) (d : Dt) (v : V) (A : Prop), Good K Z H S → Rep K (out H S Z) d v → is d S A → tyV K T v H ∧ A
theorem is_tx {K : PySem.W.Frag} : IsTyp K "str" isTx := fun Z H S d v A g r h => by
  cases d with
  | str z => rw [r.1]; exact ⟨rfl, h⟩
  | _ => exact h.elim
theorem is_ls {K : PySem.W.Frag} : IsTyp K "list" isLs := fun Z H S d v A g r h => by
  cases d with
  | lst l => obtain ⟨a, vs, rfl, h1, h2⟩ := r; exact ⟨.inl ⟨rfl, _, SqL.of (out_le h1)⟩, h⟩
  | ref a =>
    obtain ⟨l, h1, h2⟩ := h
    obtain ⟨o, h3, vs, rfl, h4⟩ := g.c a _ h1
    rw [show v = _ from r]
    exact ⟨.inl ⟨rfl, _, SqL.of h3⟩, h2⟩
  | _ => exact h.elim
section
variable {X : Cx} {K : PySem.W.Frag} {E : XK} {e : DX} {pos p apos cpos : Pos} {a o : Expr} {es : List Expr} {da : DTE} {ts : DTA} {dr : DCr} {dm : DMr} {x name : Str} {id T : String} {is : Dt → Store → Prop → Prop}
theorem tD_cb {σ : L2.St} {H : Hp} {Q : VK} (h : tD K E e (dCB dr ts) σ H Q) : tDA K E e ts σ H fun xs H1 => rDC K dr xs H1 Q := by
  obtain ⟨δ, S, Z, q, t, h, k⟩ := h
  exact ⟨δ, S, Z, _, t, h, fun vs ds H1 S1 g1 x1 r1 h1 => ⟨ds, S1, Z, q, g1, r1, h1, k.ext x1⟩⟩
theorem de_callB (hc : CallR X (.builtin id) (rDC K dr)) (hg : Gl X x) (hm : X.mg x = none) (hv : bootBuiltins x = some (.builtin id)) (ha : PA X (a :: es) (tDA K E e ts)) (hn : x ≠ "__name__" := by decide +kernel) (hd : (x == ("__debug__" : Str)) = false := by decide)
    (he : starEach (a :: es) X.env = (false, eval a X.env) :: starEach es X.env := by rfl) (hpl : (backTo pos (starEach es X.env)).any (·.1) = false := by rfl) :
    PE X (.Call (.Name x p) (a :: es) [] pos) (tD K E e (dCB dr ts)) := PE.imp (pe_callB hc hg hm hv ha hn hd he hpl) fun σ H Q h => tD_cb h
theorem de_callTy (hc : CallR X (.type T) (rDC K dr)) (hg : Gl X x) (hm : X.mg x = none) (hv : bootBuiltins x = some (.type T)) (ha : PA X (a :: es) (tDA K E e ts)) (hn : x ≠ "__name__" := by decide +kernel) (hd : (x == ("__debug__" : Str)) = false := by decide)
    (he : starEach (a :: es) X.env = (false, eval a X.env) :: starEach es X.env := by rfl) (hpl : (backTo pos (starEach es X.env)).any (·.1) = false := by rfl) :
    PE X (.Call (.Name x p) (a :: es) [] pos) (tD K E e (dCB dr ts)) := PE.imp (pe_callTy hc hg hm hv ha hn hd he hpl) fun σ H Q h => tD_cb h
theorem tD_mt (hi : IsTyp K T is) {σ : L2.St} {H : Hp} {Q : VK} (h : tD K E e (dMt is dm da ts) σ H Q) : tBM K T (rDM K dm) (tD K E e da) (tDA K E e ts) σ H Q := by
  obtain ⟨δ, S, Z, q, t, h, k⟩ := h
  refine ⟨δ, S, Z, _, t, h, fun v x H1 S1 g1 x1 r1 h1 => ?_⟩
  obtain ⟨h2, h3⟩ := hi Z H1 S1 x v _ g1 r1 h1
  exact ⟨h2, δ, S1, Z, _, t.to g1 x1, h3, fun vs ds H2 S2 g2 x2 r2 h4 => ⟨x, ds, S2, Z, q, g2, Rep.ext x2 _ _ r1, r2, h4, k.ext (x1.trans x2)⟩⟩
theorem de_bm (hK : X.K = K) (hi : IsTyp K T is) (pa : PlainAttrs T) (slot : Slot T name id) (hty : typeOf (.builtin id) = pure (.type "method_descriptor")) (hm : MtR X id (rDM K dm)) (ho : PE X o (tD K E e da)) (ha : PA X (a :: es) (tDA K E e ts))
    (hbase : attributeBase o name X.env (eval o X.env) = eval o X.env := by rfl)
    (hfew : ((backTo cpos (starEach (a :: es) X.env)).all (fun x => !x.1) && (backToKw cpos (keywordEach [] X.env)).all (fun x => x.1.isSome)
      && decide ((a :: es).length + ([] : List Keyword).length + (if ([] : List Keyword).isEmpty then 0 else 1) < 30)) = true := by rfl)
    (hline : (apos.endLine == cpos.line) = true := by rfl) (hs : starEach (a :: es) X.env = (false, eval a X.env) :: starEach es X.env := by rfl) (hplain : (backTo cpos (starEach es X.env)).any (·.1) = false := by rfl) :
    PE X (.Call (.Attribute o name apos) (a :: es) [] cpos) (tD K E e (dMt is dm da ts)) := by
  subst hK
  exact PE.imp (pe_bm pa slot hty hm ho ha hbase hfew hline hs hplain) fun σ H Q h => tD_mt hi h
@[reducible] def dMt0 (is : Dt → Store → Prop → Prop) (dr : DMr) (o : DTE) : DTE := fun δ S q => o δ S fun x S1 => is x S1 (dr x [] S1 q)
theorem de_bm0 (hK : X.K = K) (hi : IsTyp K T is) (pa : PlainAttrs T) (slot : Slot T name id) (hty : typeOf (.builtin id) = pure (.type "method_descriptor")) (hm : MtR X id (rDM K dm)) (ho : PE X o (tD K E e da))
    (hbase : attributeBase o name X.env (eval o X.env) = eval o X.env := by rfl) (hline : (apos.endLine == cpos.line) = true := by rfl) : PE X (.Call (.Attribute o name apos) [] [] cpos) (tD K E e (dMt0 is dm da)) := by
  subst hK
  refine PE.imp (pe_bm0 pa slot hty hm ho hbase hline) fun σ H Q h => ?_
  obtain ⟨δ, S, Z, q, t, h, k⟩ := h
  refine ⟨δ, S, Z, _, t, h, fun v x H1 S1 g1 x1 r1 h1 => ?_⟩
  obtain ⟨h2, h3⟩ := hi Z H1 S1 x v _ g1 r1 h1
  exact ⟨h2, x, [], S1, Z, q, g1, r1, rfl, h3, k.ext x1⟩
end
end Dn

namespace Dn
open PySem PySem.Spec PyProof.Rows L2 Pr
/-! ## statements -/
@[reducible] def dSeq (t u : DTS) : DTS := fun D δ S => t { D with nx := u D } δ S
@[reducible] def dNext : DTS := fun D δ S => D.nx δ S
@[reducible] def dCont : DTS := fun D δ S => D.ct δ S
@[reducible] def dDrop (a : DTE) : DTS := fun D δ S => a δ S fun _ S1 => D.nx δ S1
@[reducible] def dRet (a : DTE) : DTS := fun D δ S => a δ S D.rt
@[reducible] def dIf (c : DTT) (t u : DTS) : DTS := fun D δ S => c δ S fun b S1 => Ift b (t D δ S1) (u D δ S1)
@[reducible] def dRaise (e : DX) (C : Addr) : DTS := fun _ _ S => e C S
abbrev DTG := Dt → DS → Store → (DS → Store → Prop) → Prop
abbrev DTGs := List Dt → DS → Store → (DS → Store → Prop) → Prop
@[reducible] def dName (i : Nat) : DTG := fun x δ S n => n (putS δ i x) S
@[reducible] def dGNil : DTGs := fun l δ S n => match l with
  | [] => n δ S
  | _ => False
@[reducible] def dGCons (t : DTG) (u : DTGs) : DTGs := fun l δ S n => match l with
  | d :: r => t d δ S fun δ' S' => u r δ' S' n
  | [] => False
@[reducible] def LenIs : List Dt → Nat → Prop → Prop
  | [], n, A => match n with
    | 0 => A
    | _ + 1 => False
  | _ :: l, n, A => match n with
    | 0 => False
    | k + 1 => LenIs l k A
theorem LenIs.len : ∀ {l : List Dt} {n : Nat} {A : Prop}, LenIs l n A → l.length = n ∧ A
  | [], 0, _, h => ⟨rfl, h⟩
  | _ :: l, n + 1, A, h => by
    obtain ⟨h1, h2⟩ := LenIs.len (l := l) (n := n) h
    exact ⟨congrArg (· + 1) h1, h2⟩
  | [], _ + 1, _, h => h.elim
  | _ :: _, 0, _, h => h.elim
@[reducible] def dGTup (n : Nat) (t : DTGs) : DTG := fun x δ S m => match x with
  | .tup l => LenIs l n (t l δ S m)
  | _ => False
/-- o[i] = .. -/
@[reducible] def dGSubL (o i : DTE) : DTG := fun v δ S n => o δ S fun x S1 => i δ S1 fun y S2 => match x, y with
  | .ref a, .int k => ∃ l, S2 a = some (.lst l) ∧ ∃ j, ixN l.length k = some j ∧ n δ (sput S2 a (.lst (l.set j v)))
  | _, _ => False
@[reducible] def dGSubD (o i : DTE) : DTG := fun v δ S n => o δ S fun x S1 => i δ S1 fun y S2 => match x with
  | .ref a => keyOf y fun k => ∃ l, S2 a = some (.dic l) ∧ l.length < sizeLine ∧ n δ (sput S2 a (.dic (kPut l k v)))
  | _ => False
@[reducible] def dAsg (a : DTE) (g : DTG) : DTS := fun D δ S => a δ S fun x S1 => g x δ S1 D.nx
def tDG (K : PySem.W.Frag) (E : XK) (e : DX) (g : DTG) : TG := fun v σ H N => ∃ x δ S Z n, At K E e Z H S σ δ ∧ Rep K (out H S Z) x v ∧ g x δ S n ∧ ∀ σ' δ' H' S', Good K Z H' S' → Ext (out H S Z) (out H' S' Z) → Slots K (out H' S' Z) σ' δ' → n δ' S' → N σ' H'
def tDGs (K : PySem.W.Frag) (E : XK) (e : DX) (g : DTGs) : TGs := fun vs σ H N => ∃ xs δ S Z n, At K E e Z H S σ δ ∧ Reps K (out H S Z) xs vs ∧ g xs δ S n ∧ ∀ σ' δ' H' S', Good K Z H' S' → Ext (out H S Z) (out H' S' Z) → Slots K (out H' S' Z) σ' δ' → n δ' S' → N σ' H'
/-! ## what is walked -/
abbrev DTL := DS → Store → (List Dt → (Store → Prop) → Store → Prop) → Prop
structure ItOk (K : PySem.W.Frag) (G : Hp) (J : It) (l : List Dt) (keep : Store → Prop) : Prop where
  go : ∀ Z i H S, Good K Z H S → Ext G (out H S Z) → keep S → i < l.length → J.go i H
  stop : ∀ Z H S, Good K Z H S → Ext G (out H S Z) → keep S → J.stop l.length H
  yld : ∀ Z i H S x H', Good K Z H S → Ext G (out H S Z) → keep S → i < l.length → J.yld i H x H' → ∃ d, l[i]? = some d ∧ Good K Z H' S ∧ Ext (out H S Z) (out H' S Z) ∧ Rep K (out H' S Z) d x
def tDI (K : PySem.W.Frag) (E : XK) (e : DX) (it : DTL) : TI := fun σ H R => ∃ δ S Z q, At K E e Z H S σ δ ∧ it δ S q ∧ ∀ l keep H' S' J, Good K Z H' S' → Ext (out H S Z) (out H' S' Z) → ItOk K (out H' S' Z) J l keep → q l keep S' → R J H'
@[reducible] def dItT (a : DTE) : DTL := fun δ S q => a δ S fun x S1 => match x with
  | .tup l => q l (fun _ => True) S1
  | .ptp l => q l (fun _ => True) S1
  | _ => False
@[reducible] def dItLs (a : DTE) : DTL := fun δ S q => a δ S fun x S1 => match x with
  | .lst l => q l (fun _ => True) S1
  | .ref a => ∃ l, S1 a = some (.lst l) ∧ q l (fun S => S a = some (.lst l)) S1
  | _ => False
def rangeD (lo : Int) (n : Nat) : List Dt := (List.range n).map fun (i : Nat) => Dt.int (lo + i)
@[reducible] def dItR1 (t : DTA) : DTL := fun δ S q => t δ S fun xs S1 => match xs with
  | [.int n] => (-(2 ^ 62) ≤ n ∧ n < 2 ^ 62) ∧ q (rangeD 0 n.toNat) (fun _ => True) S1
  | _ => False
def enumD (l : List Dt) : List Dt := (List.range l.length).zipWith (fun (i : Nat) d => Dt.tup [.int i, d]) l
@[reducible] def dItE (t : DTA) : DTL := fun δ S q => t δ S fun xs S1 => match xs with
  | [.lst l] => q (enumD l) (fun _ => True) S1
  | [.ref a] => ∃ l, S1 a = some (.lst l) ∧ q (enumD l) (fun S => S a = some (.lst l)) S1
  | _ => False
def zipD (l m : List Dt) : List Dt := l.zipWith (fun x y => Dt.tup [x, y]) m
def signsD (z : Str) : List Dt := z.cps.toList.map fun c => Dt.str ⟨#[c]⟩
@[reducible] def dItS (a : DTE) : DTL := fun δ S q => a δ S fun x S1 => match x with
  | .str z => q (signsD z) (fun _ => True) S1
  | _ => False
/-- the keys, the values, the items of a dict that is locked -/
def keyD : Key → Dt
  | .inl i => .int i
  | .inr z => .str z
/-! ## loops -/
def dFor (it : DTL) (g : DTG) (b : DTS) : DTS := fun D δ S => it δ S fun l keep S1 => ∃ I : Nat → DS → Store → Prop, I 0 δ S1 ∧ (∀ i δ S, i ≤ l.length → I i δ S → keep S) ∧
  (∀ i d δ S, l[i]? = some d → I i δ S → g d δ S fun δ' S' => b { D with nx := I (i + 1), ct := I (i + 1), bk := D.nx } δ' S') ∧ ∀ δ S, I l.length δ S → D.nx δ S
def dWhile (c : DTT) (b : DTS) : DTS := fun D δ S => ∃ I : Nat → DS → Store → Prop, (∃ m, I m δ S) ∧ ∀ m δ S, I m δ S →
  c δ S fun k S1 => Ift k (b { D with nx := fun δ S => ∃ m', m' < m ∧ I m' δ S, ct := fun δ S => ∃ m', m' < m ∧ I m' δ S, bk := D.nx } δ S1) (D.nx δ S1)
/-! ## comprehensions -/
@[reducible] def wipesS : DS → List Nat → DS
  | δ, [] => δ
  | δ, v :: vs => wipeS (wipesS δ vs) v
@[reducible] def dYes : DTT := fun _ S q => q true S
def dLc (it : DTL) (g : DTG) (w : List Nat) (tt : DTT) (te : DTE) (q : List Dt → Store → Prop) : DS → Store → Prop := fun δ S => it δ S fun l keep S1 => l.length < sizeLine ∧ ∃ I : Nat → List Dt → Store → Prop, I 0 [] S1 ∧ (∀ i acc S, i ≤ l.length → I i acc S → keep S) ∧
  (∀ i d acc S, l[i]? = some d → I i acc S → g d (wipesS δ w) S fun δ' S' => tt δ' S' fun b S2 => Ift b (te δ' S2 fun y S3 => I (i + 1) (acc ++ [y]) S3) (I (i + 1) acc S2)) ∧ ∀ acc S, I l.length acc S → q acc S
@[reducible] def dLcF (it : DTL) (g : DTG) (w : List Nat) (tt : DTT) (te : DTE) : DTE := fun δ S q => dLc it g w tt te (fun l S' => q (.lst l) S') δ S
section
variable {X : Cx} {K : PySem.W.Frag} {E : XK} {e : DX} {pos pos' apos cpos p2 tpos : Pos} {a b c o ex value tg : Expr} {es rest : List Expr} {da db dc dw : DTE} {ta tb : DTT} {ts : DTA} {st : Stmt} {sts sts' : List Stmt} {dt du : DTS} {g : DTG} {gs : DTGs} {it : DTL}
theorem dss_cons (h1 : PS X st (tDS K E e dt)) (h2 : PSs X sts (tDS K E e du)) : PSs X (st :: sts) (tDS K E e (dSeq dt du)) := PSs.imp (pss_cons h1 h2) fun D σ H h => by
  obtain ⟨δ, S, Z, DD, t, h, k⟩ := h
  exact ⟨δ, S, Z, _, t, h, fun σ' δ' H' S' g x s h' => ⟨δ', S', Z, DD, ⟨g, s, t.lk.ext x⟩, h', k.ext x⟩, k.rt, k.bk, k.ct⟩
theorem dss_one (h1 : PS X st (tDS K E e dt)) : PSs X [st] (tDS K E e dt) := pss_one h1
theorem dss_nil : PSs X [] (tDS K E e dNext) := PSs.imp pss_nil fun D σ H h => by
  obtain ⟨δ, S, Z, DD, t, h, k⟩ := h
  exact k.nx _ _ _ _ t.good Ext.refl t.sl h
theorem ds_continue : PS X (.Continue pos) (tDS K E e dCont) := PS.imp ps_continue fun D σ H h => by
  obtain ⟨δ, S, Z, DD, t, h, k⟩ := h
  exact k.ct _ _ _ _ t.good Ext.refl t.sl h
theorem ds_expr (he : PE X ex (tD K E e da)) (hs : swapsWith ex none pos.line X.env = pure false := by rfl) : PS X (.Expr ex pos) (tDS K E e (dDrop da)) := PS.imp (ps_expr he hs) fun D σ H h => by
  obtain ⟨δ, S, Z, DD, t, h, k⟩ := h
  exact ⟨δ, S, Z, _, t, h, fun v x H1 S1 g1 x1 r1 h1 => k.nx _ _ _ _ g1 x1 (t.sl.ext x1) h1⟩
theorem ds_ret (he : PE X ex (tD K E e da)) : PS X (.Return (some ex) pos) (tDS K E e (dRet da)) := PS.imp (ps_ret he) fun D σ H h => by
  obtain ⟨δ, S, Z, DD, t, h, k⟩ := h
  exact ⟨δ, S, Z, _, t, h, fun v x H1 S1 g1 x1 r1 h1 => k.rt _ _ _ _ g1 x1 r1 h1⟩
theorem ds_if (hc : PT X c (tDT K E e ta)) (h1 : PSs X sts (tDS K E e dt)) (h2 : PSs X sts' (tDS K E e du)) : PS X (.If c sts sts' pos) (tDS K E e (dIf ta dt du)) := PS.imp (ps_if hc h1 h2) fun D σ H h => by
  obtain ⟨δ, S, Z, DD, t, h, k⟩ := h
  refine ⟨δ, S, Z, _, t, h, fun b H1 S1 g1 x1 h1 => ?_⟩
  cases b with
  | true => exact iteT ⟨δ, S1, Z, DD, t.to g1 x1, h1, k.ext x1⟩
  | false => exact iteF ⟨δ, S1, Z, DD, t.to g1 x1, h1, k.ext x1⟩
theorem ds_raise {W : WX} {B : String} {t : L2.St → Hp → XK → Prop} {C : Addr} (hc : X.calm = true) (tk : Takes X W) (hW : ∀ cls d σ H, E cls d H → W cls d σ H) (he : PMk X ex fun σ H Q => Q (.ref C) none H) : PS X (.Raise (some ex) none pos) (tDS K E e (dRaise e C)) := PS.imp (ps_raise hc tk he) fun D σ H h => by
  obtain ⟨δ, S, Z, DD, t, h, k⟩ := h
  exact hW _ _ _ _ (t.lk C H S t.good Ext.refl h)
/-! targets -/
theorem dg_name {i : Nat} {x : Str} (hN : X.N.Nodup) (hi : X.N[i]? = some x) (hx : Loc X.env.scope x) (hf : X.fn x = true ∨ X.env.scope.names.lookup x = some .local := by first | exact .inl rfl | exact .inr rfl | assumption) : PG X (.Name x pos) (tDG K E e (dName i)) := ⟨fun pins s σ H v u Q I r h => by
  refine (pg_name (pos := pos) hN hi hx hf).run pins s σ H v u Q I r ?_
  obtain ⟨x, δ, S, Z, n, t, rx, h, k⟩ := h
  exact k _ _ H S t.good Ext.refl (t.sl.put rx) h⟩
theorem dgs_nil : PGs X [] (tDGs K E e dGNil) := ⟨fun pins s σ H v u Q I r h => by
  refine pgs_nil.run pins s σ H v u Q I r ?_
  obtain ⟨x, δ, S, Z, n, t, rx, h, k⟩ := h
  cases x with
  | nil => exact ⟨rx, k σ δ H S t.good Ext.refl t.sl h⟩
  | cons _ _ => exact h.elim⟩
theorem dgs_cons (h1 : PG X a (tDG K E e g)) (h2 : PGs X es (tDGs K E e gs)) (hs : (assignEach (a :: es) X.env).map (·.2) = assign a X.env :: (assignEach es X.env).map (·.2) := by rfl) : PGs X (a :: es) (tDGs K E e (dGCons g gs)) := ⟨fun pins s σ H v u Q I r h => by
  refine (pgs_cons h1 h2 hs).run pins s σ H v u Q I r ?_
  obtain ⟨x, δ, S, Z, n, t, rx, h, k⟩ := h
  cases x with
  | nil => exact h.elim
  | cons d l =>
    obtain ⟨v1, vr, rfl, r1, r2⟩ := rx
    exact ⟨v1, vr, rfl, d, δ, S, Z, _, t, r1, h, fun σ' δ' H' S' g' x' s' h' => ⟨l, δ', S', Z, n, ⟨g', s', t.lk.ext x'⟩, Reps.ext x' _ _ r2, h', fun σ'' δ'' H'' S'' g'' x'' => k σ'' δ'' H'' S'' g'' (x'.trans x'')⟩⟩⟩
theorem dg_tup (hK : X.K = K) {k n : Nat} (hc : X.calm = true) (h : PGs X es (tDGs K E e gs)) (hn : (assignEach es X.env).length = n := by rfl) (hst : (assignEach es X.env).findIdx? (·.1) = none := by rfl) : PG X (.Tuple es k pos) (tDG K E e (dGTup n gs)) := ⟨fun pins s σ H v u Q I r h0 => by
  subst hK
  refine (pg_tup (k := k) (pos := pos) hc h hn hst).run pins s σ H v u Q I r ?_
  obtain ⟨x, δ, S, Z, m, t, rx, h1, k⟩ := h0
  cases x with
  | tup l =>
    obtain ⟨p, vs, rfl, hp, hl⟩ := rx
    obtain ⟨h2, h3⟩ := LenIs.len h1
    exact ⟨p, vs, rfl, SqT.out hp, by rw [← hl.len]; exact h2, l, δ, S, Z, m, t, hl, h3, k⟩
  | _ => exact h1.elim⟩
theorem dg_subL (ho : PE X o (tD K E e da)) (hi : PE X b (tD K E e db))
    (ha : ∀ v, assign (.Subscript o b pos) X.env v = (do
      let ov ← holding [v] (eval o X.env)
      let iv ← holding [v, ov] (eval b X.env)
      standAt pos
      holding [v, ov, iv] (setItem ov iv v)
      release [v, ov, iv] []) := by intro _; rfl) : PG X (.Subscript o b pos) (tDG K E e (dGSubL da db)) := ⟨fun pins s σ H v u Q I r h => by
  refine (pg_sub ho hi set_list ha).run pins s σ H v u Q I r ?_
  obtain ⟨x, δ, S, Z, n, t, rx, h, k⟩ := h
  refine ⟨δ, S, Z, _, t, h, fun v1 x1 H1 S1 g1 y1 r1 h1 => ⟨δ, S1, Z, _, t.to g1 y1, h1, fun v2 x2 H2 S2 g2 y2 r2 h2 => ?_⟩⟩
  cases x1 with
  | ref p =>
    cases x2 with
    | int j =>
      obtain ⟨l, h3, m, h4, h5⟩ := h2
      obtain ⟨ob, h6, vs, rfl, h7⟩ := g2.c p _ h3
      have cr : CRep K (out H2 S2 Z) (.lst (l.set m x)) (.lst (vs.set m v)) := ⟨_, rfl, Reps.pair.mpr (Paired.setp (Rep.ext (y1.trans y2) _ _ rx) m (Reps.pair.mp h7))⟩
      have xx := y1.trans y2
      exact ⟨p, vs, j, m, r1, r2, h6, by rw [← h7.len]; exact h4, k σ δ _ _ (g2.mut h3 cr) (by rw [out_mut h3]; exact xx) (by rw [out_mut h3]; exact t.sl.ext xx) h5⟩
    | _ => exact h2.elim
  | _ => exact h2.elim⟩
theorem dg_subD (hu : X.A.units + 1 < cLine) (ho : PE X o (tD K E e da)) (hi : PE X b (tD K E e db))
    (ha : ∀ v, assign (.Subscript o b pos) X.env v = (do
      let ov ← holding [v] (eval o X.env)
      let iv ← holding [v, ov] (eval b X.env)
      standAt pos
      holding [v, ov, iv] (setItem ov iv v)
      release [v, ov, iv] []) := by intro _; rfl) : PG X (.Subscript o b pos) (tDG K E e (dGSubD da db)) := ⟨fun pins s σ H v u Q I r h => by
  refine (pg_sub ho hi (set_dict hu) ha).run pins s σ H v u Q I r ?_
  obtain ⟨x, δ, S, Z, n, t, rx, h, k⟩ := h
  refine ⟨δ, S, Z, _, t, h, fun v1 x1 H1 S1 g1 y1 r1 h1 => ⟨δ, S1, Z, _, t.to g1 y1, h1, fun v2 x2 H2 S2 g2 y2 r2 h2 => ?_⟩⟩
  cases x1 with
  | ref p =>
    obtain ⟨key, rfl, ko, l, h3, h4, h5⟩ := keyOf_rep r2 h2
    obtain ⟨ob, h6, vs, rfl, h7⟩ := g2.c p _ h3
    have xx := y1.trans y2
    have cr : CRep K (out H2 S2 Z) (.dic (kPut l key x)) (.dK (putK vs key v)) := ⟨_, rfl, Repk.kr.mpr (KR.put (Repk.kr.mp h7) ko (Rep.ext xx _ _ rx))⟩
    exact ⟨p, _, r1, DPut.k h6 (by rw [← h7.len]; exact h4), k σ δ _ _ (g2.mut h3 cr) (by rw [out_mut h3]; exact xx) (by rw [out_mut h3]; exact t.sl.ext xx) h5⟩
  | _ => exact h2.elim⟩
theorem ds_asg (he : PE X ex (tD K E e da)) (hg : PG X tg (tDG K E e g)) (hs : swapsWithSole [tg] ex pos.line X.env = pure false := by rfl) (hw : swappedStores [tg] ex X.env = pure none := by rfl)
    (h1 : (assignEach [tg] X.env).map (·.2) = [assign tg X.env] := by rfl) : PS X (.Assign [tg] ex pos) (tDS K E e (dAsg da g)) := PS.imp (ps_asg he hg hs hw h1) fun D σ H h => by
  obtain ⟨δ, S, Z, DD, t, h, k⟩ := h
  exact ⟨δ, S, Z, _, t, h, fun v x H1 S1 g1 x1 r1 h1 => ⟨x, δ, S1, Z, _, t.to g1 x1, r1, h1, fun σ' δ' H' S' g' x' s' h' => k.nx σ' δ' H' S' g' (x1.trans x') s' h'⟩⟩
theorem ds_set {i : Nat} {x : Str} (hN : X.N.Nodup) (hi : X.N[i]? = some x) (hx : Loc X.env.scope x) (he : PE X ex (tD K E e da)) (hs : swapsWith ex (some (.Name x pos')) pos.line X.env = pure false := by rfl) (hf : X.fn x = true ∨ X.env.scope.names.lookup x = some .local := by first | exact .inl rfl | exact .inr rfl | assumption) :
    PS X (.Assign [.Name x pos'] ex pos) (tDS K E e (dAsg da (dName i))) := PS.imp (ps_set hN hi hx he hs hf) fun D σ H h => by
  obtain ⟨δ, S, Z, DD, t, h, k⟩ := h
  exact ⟨δ, S, Z, _, t, h, fun v x H1 S1 g1 x1 r1 h1 => k.nx _ _ _ _ g1 x1 ((t.sl.ext x1).put r1) h1⟩
/-- a, b = e1, e2 -/
@[reducible] def dPar (i j : Nat) (t : DTA) : DTS := fun D δ S => t δ S fun xs S1 => match xs with
  | [x, y] => D.nx (putS (putS δ i x) j y) S1
  | _ => False
theorem ds_par {i j : Nat} {x y : Str} {px py pt : Pos} {kt k2 pt2} (hc : X.calm = true) (hN : X.N.Nodup) (hi : X.N[i]? = some x) (hj : X.N[j]? = some y) (hij : i ≠ j)
    (hx : X.env.scope.names.lookup x = some .local) (hy : X.env.scope.names.lookup y = some .local) (ha : PA X [a, b] (tDA K E e ts))
    (hw : swappedStores [.Tuple [.Name x px, .Name y py] kt pt] (.Tuple [a, b] k2 pt2) X.env = pure (some [x, y]))
    (hs : swapsWithSole [.Tuple [.Name x px, .Name y py] kt pt] (.Tuple [a, b] k2 pt2) pos.line X.env = pure false := by rfl) :
    PS X (.Assign [.Tuple [.Name x px, .Name y py] kt pt] (.Tuple [a, b] k2 pt2) pos) (tDS K E e (dPar i j ts)) := PS.imp (ps_par hc hN hi hj hij hx hy ha hw hs) fun D σ H h => by
  obtain ⟨δ, S, Z, DD, t, h, k⟩ := h
  refine ⟨δ, S, Z, _, t, h, fun vs xs H1 S1 g1 x1 r1 h1 => ?_⟩
  match xs, h1 with
  | [x, y], h1 =>
    obtain ⟨v, _, rfl, rv, w, _, rfl, rw', rfl⟩ := r1
    exact ⟨v, w, rfl, k.nx _ _ _ _ g1 x1 (((t.sl.ext x1).put rv).put rw') h1⟩
/-- x op= e -/
@[reducible] def dAug (i : Nat) (dr : D2) (a : DTE) : DTS := fun D δ S => match look δ i with
  | some x => a δ S fun y S1 => dr x y S1 fun z S2 => D.nx (putS δ i z) S2
  | none => False
theorem ds_aug {i : Nat} {x : Str} {op : Operator} {dr : D2} (hN : X.N.Nodup) (hi : X.N[i]? = some x) (hx : Loc X.env.scope x) (he : PE X ex (tD K E e da)) (ho : PIp X op (rD K dr)) (hf : X.fn x = true ∨ X.env.scope.names.lookup x = some .local := by first | exact .inl rfl | exact .inr rfl | assumption) :
    PS X (.AugAssign (.Name x pos') op ex pos) (tDS K E e (dAug i dr da)) := PS.imp (ps_aug hN hi hx he ho hf) fun D σ H h => by
  obtain ⟨δ, S, Z, DD, t, h, k⟩ := h
  cases hl : look δ i with
  | none => simp only [dAug, hl] at h
  | some d =>
    simp only [dAug, hl] at h
    obtain ⟨v, h1, h2⟩ := t.sl.look hl
    refine ⟨v, h1, δ, S, Z, _, t, h, fun w y H1 S1 g1 x1 r1 h3 => ⟨d, y, S1, Z, _, g1, Rep.ext x1 _ _ h2, r1, h3, fun u z H2 S2 g2 x2 r2 h4 => ?_⟩⟩
    exact k.nx _ _ _ _ g2 (x1.trans x2) ((t.sl.ext (x1.trans x2)).put r2) h4
/-! loops -/
theorem ds_for {body : List Stmt} (hp : PassesOwn (model X.prog X.w) X.A X.env X.xe) (hc : X.calm = true) (hi : PI X tg ex (tDI K E e it)) (hg : PG X tg (tDG K E e g)) (hb : PSs X body (tDS K E e dt)) (hs : ∀ x, foldedSetIterable ex X.env x = pure x := by intro _; rfl) :
    PS X (.For tg ex body [] pos) (tDS K E e (dFor it g dt)) := PS.imp (ps_for hp hc hi hg hb hs) fun D σ H h => by
  obtain ⟨δ, S, Z, DD, t, h, k⟩ := h
  refine ⟨δ, S, Z, _, t, h, fun l keep H1 S1 J g1 x1 ok h1 => ?_⟩
  obtain ⟨I, h0, hk, hs, hd⟩ := h1
  have t1 := t.to g1 x1
  refine for_it (n := l.length) (G := fun H => ∃ S, Good K Z H S ∧ Ext (out H1 S1 Z) (out H S Z) ∧ keep S) (Y := fun i H x H' => J.yld i H x H') ⟨fun i H hi ⟨S, g, x, kp⟩ => ok.go Z i H S g x kp hi, fun H ⟨S, g, x, kp⟩ => ok.stop Z H S g x kp, fun i H x H' _ _ y => y⟩
    (fun i σ H => ∃ δ S, Good K Z H S ∧ Ext (out H1 S1 Z) (out H S Z) ∧ Slots K (out H S Z) σ δ ∧ I i δ S) ⟨δ, S1, g1, Ext.refl, t1.sl, h0⟩ (fun i σ H hi ⟨δ, S, g, x, s, q⟩ => ⟨S, g, x, hk i δ S hi q⟩) (fun i x σ H H' hi hh y => ?_) (fun σ H ⟨δ, S, g, x, s, q⟩ => k.nx _ _ _ _ g (x1.trans x) s (hd δ S q))
  obtain ⟨δ2, S2, g2, x2, s2, q2⟩ := hh
  obtain ⟨d, e1, g3, x3, r3⟩ := ok.yld Z i H S2 x H' g2 x2 (hk i δ2 S2 (Nat.le_of_lt hi) q2) hi y
  have x23 := x2.trans x3
  refine ⟨d, δ2, S2, Z, _, ⟨g3, s2.ext x3, t1.lk.ext x23⟩, r3, hs i d δ2 S2 e1 q2, fun σ' δ' H' S' g' x' s' h' => ⟨δ', S', Z, _, ⟨g', s', t1.lk.ext (x23.trans x')⟩, h', ?_⟩⟩
  have x4 := x23.trans x'
  exact ⟨fun σ δ H S g x s q => ⟨δ, S, g, x4.trans x, s, q⟩, fun v d H S g x r q => k.rt v d H S g (x1.trans (x4.trans x)) r q, fun σ δ H S g x s q => k.nx σ δ H S g (x1.trans (x4.trans x)) s q, fun σ δ H S g x s q => ⟨δ, S, g, x4.trans x, s, q⟩⟩
theorem ds_while {body : List Stmt} (hp : PassesOwn (model X.prog X.w) X.A X.env X.xe) (hc : PT X c (tDT K E e ta)) (hb : PSs X body (tDS K E e dt)) : PS X (.While c body [] pos) (tDS K E e (dWhile ta dt)) := PS.imp (ps_while hp hc hb) fun D σ H h => by
  obtain ⟨δ, S, Z, DD, t, ⟨I, ⟨m, h0⟩, hs⟩, k⟩ := h
  refine ⟨fun m σ H' => ∃ δ S', Good K Z H' S' ∧ Ext (out H S Z) (out H' S' Z) ∧ Slots K (out H' S' Z) σ δ ∧ I m δ S', ⟨m, δ, S, t.good, Ext.refl, t.sl, h0⟩, fun m σ H1 hh => ?_⟩
  obtain ⟨δ1, S1, g1, x1, s1, q1⟩ := hh
  refine ⟨δ1, S1, Z, _, ⟨g1, s1, t.lk.ext x1⟩, hs m δ1 S1 q1, fun b H2 S2 g2 x2 h2 => ?_⟩
  have x12 := x1.trans x2
  cases b with
  | false => exact iteF (k.nx _ _ _ _ g2 x12 (s1.ext x2) h2)
  | true =>
    refine iteT ⟨fun σ H' => ∃ m', m' < m ∧ ∃ δ S', Good K Z H' S' ∧ Ext (out H S Z) (out H' S' Z) ∧ Slots K (out H' S' Z) σ δ ∧ I m' δ S', fun σ' H' q => q, δ1, S2, Z, _, ⟨g2, s1.ext x2, t.lk.ext x12⟩, h2, ?_⟩
    exact ⟨fun σ δ H S g x s ⟨m', l, q⟩ => ⟨m', l, δ, S, g, x12.trans x, s, q⟩, fun v d H S g x r q => k.rt v d H S g (x12.trans x) r q, fun σ δ H S g x s q => k.nx σ δ H S g (x12.trans x) s q, fun σ δ H S g x s ⟨m', l, q⟩ => ⟨m', l, δ, S, g, x12.trans x, s, q⟩⟩
end
end Dn

namespace Dn
open PySem PySem.Spec PyProof.Rows L2 Pr
section
variable {K : PySem.W.Frag} {Z G : Hp}
theorem ok_lst {a : Addr} {vs : List V} {l : List Dt} (h : G a = some (.lst vs)) (r : Reps K G l vs) : ItOk K G (Itl K a) l (fun _ => True) :=
  ⟨fun Z i H S g x _ hi => by
    obtain ⟨v, hv⟩ : ∃ v, vs[i]? = some v := ⟨vs[i]'(by rw [← r.len]; exact hi), List.getElem?_eq_getElem _⟩
    exact ⟨vs, v, SqL.of (out_le (x.lst h)), hv⟩,
   fun Z H S g x _ => ⟨vs, SqL.of (out_le (x.lst h)), by rw [r.len]; exact Nat.le_refl _⟩,
   fun Z i H S x H' g e _ hi y => by
    obtain ⟨rfl, y⟩ := y
    have hv := y vs (SqL.of (out_le (e.lst h)))
    obtain ⟨d, h1, h2⟩ := Paired.get' (Reps.pair.mp r) hv
    exact ⟨d, h1, g, Ext.refl, Rep.ext e _ _ h2⟩⟩
theorem ok_tup {a : Addr} {vs : List V} {l : List Dt} (h : SqT K G a vs) (r : Reps K G l vs) : ItOk K G (Itt K a) l (fun _ => True) :=
  ⟨fun Z i H S g x _ hi => by
    obtain ⟨v, hv⟩ : ∃ v, vs[i]? = some v := ⟨vs[i]'(by rw [← r.len]; exact hi), List.getElem?_eq_getElem _⟩
    exact ⟨vs, v, SqT.out (x.tup h), hv⟩,
   fun Z H S g x _ => ⟨vs, SqT.out (x.tup h), by rw [r.len]; exact Nat.le_refl _⟩,
   fun Z i H S x H' g e _ hi y => by
    obtain ⟨rfl, y⟩ := y
    have hv := y vs (SqT.out (e.tup h))
    obtain ⟨d, h1, h2⟩ := Paired.get' (Reps.pair.mp r) hv
    exact ⟨d, h1, g, Ext.refl, Rep.ext e _ _ h2⟩⟩
/-- a list that is a cell, unchanged while it is walked -/
theorem ok_cell {a : Addr} {l : List Dt} : ItOk K G (Itl K a) l (fun S => S a = some (.lst l)) :=
  ⟨fun Z i H S g x kp hi => by
    obtain ⟨o, h1, vs, rfl, r⟩ := g.c a _ kp
    obtain ⟨v, hv⟩ : ∃ v, vs[i]? = some v := ⟨vs[i]'(by rw [← r.len]; exact hi), List.getElem?_eq_getElem _⟩
    exact ⟨vs, v, SqL.of h1, hv⟩,
   fun Z H S g x kp => by
    obtain ⟨o, h1, vs, rfl, r⟩ := g.c a _ kp
    exact ⟨vs, SqL.of h1, by rw [r.len]; exact Nat.le_refl _⟩,
   fun Z i H S x H' g e kp hi y => by
    obtain ⟨rfl, y⟩ := y
    obtain ⟨o, h1, vs, rfl, r⟩ := g.c a _ kp
    obtain ⟨d, h2, h3⟩ := Paired.get' (Reps.pair.mp r) (y vs (SqL.of h1))
    exact ⟨d, h2, g, Ext.refl, h3⟩⟩
theorem ok_range {lo : Int} {n : Nat} : ItOk K G (Itr lo n) (rangeD lo n) (fun _ => True) :=
  ⟨fun Z i H S g x _ hi => by
    unfold rangeD at hi
    rw [List.length_map, List.length_range] at hi
    exact hi,
   fun Z H S g x _ => by
    show n ≤ _
    unfold rangeD
    rw [List.length_map, List.length_range]
    exact Nat.le_refl _,
   fun Z i H S x H' g e _ hi y => by
    obtain ⟨rfl, rfl⟩ := y
    unfold rangeD at hi ⊢
    rw [List.length_map, List.length_range] at hi
    refine ⟨.int (lo + i), ?_, g, Ext.refl, rfl⟩
    rw [List.getElem?_map, List.getElem?_range hi]
    rfl⟩
theorem ok_str {z : Str} (h : SOk z) : ItOk K G (Its z) (signsD z) (fun _ => True) := by
  have w := walk_str (z := z)
  have hl : (signsD z).length = z.cps.size := by unfold signsD; rw [List.length_map, Array.length_toList]
  refine ⟨fun Z i H S g x _ hi => w.goes i H (by rw [← hl]; exact hi) trivial, fun Z H S g x _ => by rw [hl]; exact w.stops H trivial, fun Z i H S x H' g e _ hi y => ?_⟩
  obtain ⟨rfl, c, hc, rfl⟩ := w.yields i H x H' (by rw [← hl]; exact hi) trivial y
  refine ⟨.str ⟨#[c]⟩, ?_, g, Ext.refl, rfl, h.sign ?_⟩
  · unfold signsD
    rw [List.getElem?_map, Array.getElem?_toList, hc]
    rfl
  · exact Array.mem_toList_iff.mpr (Array.mem_of_getElem? hc)
theorem enumD_len (l : List Dt) : (enumD l).length = l.length := by unfold enumD; rw [List.length_zipWith, List.length_range, Nat.min_self]
theorem enumD_get (l : List Dt) (i : Nat) : (enumD l)[i]? = l[i]?.map fun d => .tup [.int i, d] := by
  unfold enumD
  rw [List.getElem?_zipWith]
  by_cases h : i < l.length
  · rw [List.getElem?_range h, List.getElem?_eq_getElem h]
    rfl
  · rw [List.getElem?_eq_none (by rw [List.length_range]; omega), List.getElem?_eq_none (l := l) (by omega)]
    rfl
/-- new pairs -/
theorem ok_pair {J : It} {l : List Dt} {keep : Store → Prop} {Gd : Hp → Prop} {f g : Nat → Option V} {dl dm : List Dt} (w : Walk J l.length Gd (YPair f g)) (hg : ∀ Z H S, Good K Z H S → Ext G (out H S Z) → keep S → Gd H)
    (hy : ∀ Z i H S x y, Good K Z H S → Ext G (out H S Z) → keep S → f i = some x → g i = some y → ∃ dx dy, l[i]? = some (.tup [dx, dy]) ∧ Rep K (out H S Z) dx x ∧ Rep K (out H S Z) dy y) : ItOk K G J l keep := by
  refine ⟨fun Z i H S g x k hi => w.goes i H hi (hg Z H S g x k), fun Z H S g x k => w.stops H (hg Z H S g x k), fun Z i H S x H' gd e k hi y => ?_⟩
  obtain ⟨T, u, v, rfl, nT, rfl, h1, h2⟩ := w.yields i H x H' hi (hg Z H S gd e k) y
  obtain ⟨dx, dy, h3, h4, h5⟩ := hy Z i H S u v gd e k h1 h2
  refine ⟨_, h3, gd.new nT, ext_new gd nT, T, [u, v], rfl, SqT.of (out_new gd nT), u, [v], rfl, Rep.ext (ext_new gd nT) _ _ h4, v, [], rfl, Rep.ext (ext_new gd nT) _ _ h5, rfl⟩
theorem ok_enum {a : Addr} {vs : List V} {l : List Dt} (h : G a = some (.lst vs)) (r : Reps K G l vs) : ItOk K G (Ite K a) (enumD l) (fun _ => True) := by
  refine ok_pair (dl := []) (dm := []) (Gd := fun H => SqL K H a vs) (f := fun i => some (.int (i : Nat))) (g := fun i => vs[i]?) (by rw [enumD_len, r.len]; exact walk_enum) (fun Z H S g x _ => SqL.of (out_le (x.lst h))) fun Z i H S x y g e _ h1 h2 => ?_
  cases h1
  obtain ⟨d, h3, h4⟩ := Paired.get' (Reps.pair.mp r) h2
  exact ⟨.int i, d, by rw [enumD_get, h3]; rfl, rfl, Rep.ext e _ _ h4⟩
theorem ok_enumC {a : Addr} {l : List Dt} {H0 : Hp} {S0 : Store} (g0 : Good K Z H0 S0) (h0 : S0 a = some (.lst l)) (e0 : G = out H0 S0 Z) {vs : List V} (hv : H0 a = some (.lst vs)) (hl : l.length = vs.length) : ItOk K G (Ite K a) (enumD l) (fun S => S a = some (.lst l)) := by
  refine ⟨fun Z i H S g x kp hi => ?_, fun Z H S g x kp => ?_, fun Z i H S x H' g e kp hi y => ?_⟩
  · obtain ⟨o, h1, ws, rfl, r⟩ := g.c a _ kp
    rw [enumD_len] at hi
    exact ⟨ws, ws[i]'(by rw [← r.len]; exact hi), SqL.of h1, List.getElem?_eq_getElem _⟩
  · obtain ⟨o, h1, ws, rfl, r⟩ := g.c a _ kp
    exact ⟨ws, SqL.of h1, by rw [enumD_len, r.len]; exact Nat.le_refl _⟩
  · obtain ⟨o, h1, ws, rfl, r⟩ := g.c a _ kp
    obtain ⟨T, u, rfl, nT, rfl, h2⟩ := y
    obtain ⟨d, h3, h4⟩ := Paired.get' (Reps.pair.mp r) (h2 ws (SqL.of h1))
    exact ⟨.tup [.int i, d], by rw [enumD_get, h3]; rfl, g.new nT, ext_new g nT, T, [.int i, u], rfl, SqT.of (out_new g nT), .int i, [u], rfl, rfl, u, [], rfl, Rep.ext (ext_new g nT) _ _ h4, rfl⟩
/-! a dict that is locked -/
end
section
variable {X : Cx} {K : PySem.W.Frag} {E : XK} {e : DX} {pos p apos cpos : Pos} {a b ex tg : Expr} {da db : DTE} {ts : DTA} {dt : DTS}
theorem di_lst (hK : X.K = K) (ha : PE X ex (tD K E e da)) : PI X tg ex (tDI K E e (dItLs da)) := ⟨fun pins s σ H R I h => by
  refine (pi_listK hK ha).run pins s σ H R I ?_
  obtain ⟨δ, S, Z, q, t, h, k⟩ := h
  refine ⟨δ, S, Z, _, t, h, fun v x H1 S1 g1 x1 r1 h1 => ?_⟩
  cases x with
  | lst l =>
    obtain ⟨a, vs, rfl, h2, h3⟩ := r1
    exact ⟨a, rfl, ⟨vs, SqL.of (out_le h2)⟩, k l _ H1 S1 _ g1 x1 (ok_lst h2 h3) h1⟩
  | ref a =>
    obtain ⟨l, h2, h3⟩ := h1
    obtain ⟨o, h4, vs, rfl, h5⟩ := g1.c a _ h2
    exact ⟨a, r1, ⟨vs, SqL.of h4⟩, k l _ H1 S1 _ g1 x1 ok_cell h3⟩
  | _ => exact h1.elim⟩
theorem di_tup (hK : X.K = K) (ha : PE X ex (tD K E e da)) : PI X tg ex (tDI K E e (dItT da)) := ⟨fun pins s σ H R I h => by
  refine (pi_tupK hK ha).run pins s σ H R I ?_
  obtain ⟨δ, S, Z, q, t, h, k⟩ := h
  refine ⟨δ, S, Z, _, t, h, fun v x H1 S1 g1 x1 r1 h1 => ?_⟩
  cases x with
  | tup l =>
    obtain ⟨a, vs, rfl, h2, h3⟩ := r1
    exact ⟨a, rfl, ⟨vs, SqT.out h2⟩, k l _ H1 S1 _ g1 x1 (ok_tup h2 h3) h1⟩
  | ptp l =>
    obtain ⟨a, vs, rfl, h2, h3⟩ := r1
    exact ⟨a, rfl, ⟨vs, SqT.out (ptp_sq h2)⟩, k l _ H1 S1 _ g1 x1 (ok_tup (ptp_sq h2) h3) h1⟩
  | _ => exact h1.elim⟩
theorem di_str (ha : PE X ex (tD K E e da)) : PI X tg ex (tDI K E e (dItS da)) := ⟨fun pins s σ H R I h => by
  refine (pi_str ha).run pins s σ H R I ?_
  obtain ⟨δ, S, Z, q, t, h, k⟩ := h
  refine ⟨δ, S, Z, _, t, h, fun v x H1 S1 g1 x1 r1 h1 => ?_⟩
  cases x with
  | str z => exact ⟨z, r1.1, k _ _ H1 S1 _ g1 x1 (ok_str r1.2) h1⟩
  | _ => exact h1.elim⟩
theorem reps1 {K : PySem.W.Frag} {G : Hp} {d : Dt} {vs : List V} (h : Reps K G [d] vs) : ∃ v, vs = [v] ∧ Rep K G d v := by
  obtain ⟨v, _, rfl, r, rfl⟩ := h
  exact ⟨v, rfl, r⟩
theorem reps2 {K : PySem.W.Frag} {G : Hp} {d c : Dt} {vs : List V} (h : Reps K G [d, c] vs) : ∃ v w, vs = [v, w] ∧ Rep K G d v ∧ Rep K G c w := by
  obtain ⟨v, _, rfl, r, w, _, rfl, r2, rfl⟩ := h
  exact ⟨v, w, rfl, r, r2⟩
theorem di_range1 (hg : Gl X "range") (hm : X.mg "range" = none) (ha : PA X [a] (tDA K E e ts)) (hs : starEach [a] X.env = [(false, eval a X.env)] := by rfl) : PI X tg (.Call (.Name "range" p) [a] [] pos) (tDI K E e (dItR1 ts)) := ⟨fun pins s σ H R I h => by
  refine (pi_range1 (pos := pos) hg hm ha hs).run pins s σ H R I ?_
  obtain ⟨δ, S, Z, q, t, h, k⟩ := h
  refine ⟨δ, S, Z, _, t, h, fun vs xs H1 S1 g1 x1 r1 h1 => ?_⟩
  match xs, h1 with
  | [.int n], h1 =>
    obtain ⟨v, rfl, rv⟩ := reps1 r1
    exact ⟨n, by rw [show v = _ from rv], h1.1.1, h1.1.2, k _ _ H1 S1 _ g1 x1 ok_range h1.2⟩⟩
theorem di_enum (hK : X.K = K) {elts : List Expr} {kk : Nat} {tpos : Pos} (hg : Gl X "enumerate") (hm : X.mg "enumerate" = none) (ha : PA X [a] (tDA K E e ts)) (hs : starEach [a] X.env = [(false, eval a X.env)] := by rfl) :
    PI X (.Tuple elts kk tpos) (.Call (.Name "enumerate" p) [a] [] pos) (tDI K E e (dItE ts)) := ⟨fun pins s σ H R I h => by
  subst hK
  refine (pi_enum (pos := pos) hg hm ha hs).run pins s σ H R I ?_
  obtain ⟨δ, S, Z, q, t, h, k⟩ := h
  refine ⟨δ, S, Z, _, t, h, fun vs xs H1 S1 g1 x1 r1 h1 => ?_⟩
  match xs, h1 with
  | [.lst l], h1 =>
    obtain ⟨v, rfl, rv⟩ := reps1 r1
    obtain ⟨a, ws, rfl, h2, h3⟩ := rv
    exact ⟨a, ws, rfl, SqL.of (out_le h2), k _ _ H1 S1 _ g1 x1 (ok_enum h2 h3) h1⟩
  | [.ref a], h1 =>
    obtain ⟨v, rfl, rv⟩ := reps1 r1
    obtain ⟨l, h2, h3⟩ := h1
    obtain ⟨o, h4, ws, rfl, h5⟩ := g1.c a _ h2
    exact ⟨a, ws, by rw [show v = _ from rv], SqL.of h4, k _ _ H1 S1 _ g1 x1 (ok_enumC g1 h2 rfl h4 h5.len) h3⟩⟩
/-! locks -/
end
end Dn

/-! comprehensions -/
namespace Dn
open PySem PySem.Spec PyProof.Rows L2 Pr
@[reducible] def snds : List (Str × Nat) → List Nat
  | [] => []
  | (_, n) :: r => n :: snds r
theorem snds_eq : ∀ l : List (Str × Nat), snds l = l.map (·.2)
  | [] => rfl
  | (_, n) :: r => by show n :: snds r = n :: r.map (·.2); rw [snds_eq r]
def noX : DX := fun _ _ => False
theorem lk_no {K : PySem.W.Frag} {E : XK} {Z G : Hp} : Lk K E noX Z G := fun _ _ _ _ _ h => h.elim
def tGw (K : PySem.W.Frag) (vs : List Nat) (g : DTG) : TG := fun v σ H N => ∃ x δ S Z n, Good K Z H S ∧ Slots K (out H S Z) σ δ ∧ Rep K (out H S Z) x v ∧ g x δ S n ∧
  ∀ σ' δ' H' S', wipe σ' vs = wipe σ vs → Good K Z H' S' → Ext (out H S Z) (out H' S' Z) → Slots K (out H' S' Z) σ' δ' → n δ' S' → N σ' H'
def tGws (K : PySem.W.Frag) (vs : List Nat) (g : DTGs) : TGs := fun us σ H N => ∃ xs δ S Z n, Good K Z H S ∧ Slots K (out H S Z) σ δ ∧ Reps K (out H S Z) xs us ∧ g xs δ S n ∧
  ∀ σ' δ' H' S', wipe σ' vs = wipe σ vs → Good K Z H' S' → Ext (out H S Z) (out H' S' Z) → Slots K (out H' S' Z) σ' δ' → n δ' S' → N σ' H'
theorem wipe_mem {σ : L2.St} {i : Nat} {x : Option V} : ∀ {vs : List Nat}, i ∈ vs → wipe (σ.set i x) vs = wipe σ vs
  | v :: vs, h => by
    show (wipe (σ.set i x) vs).set v none = (wipe σ vs).set v none
    have comm : ∀ ws : List Nat, wipe (σ.set i x) ws = (wipe σ ws).set i ((wipe (σ.set i x) ws)[i]?.getD none) := fun ws => by
      induction ws with
      | nil =>
        show σ.set i x = σ.set i (((σ.set i x)[i]?).getD none)
        by_cases hi : i < σ.length
        · rw [List.getElem?_set_self hi]; rfl
        · rw [List.set_eq_of_length_le (by omega), List.set_eq_of_length_le (by omega)]
      | cons w ws ih =>
        show (wipe (σ.set i x) ws).set w none = ((wipe σ ws).set w none).set i _
        by_cases hw : w = i
        · subst hw
          rw [ih, List.set_set, List.set_set]
          show _ = (wipe σ ws).set w (((wipe (σ.set w x) (w :: ws))[w]?).getD none)
          by_cases hl : w < (wipe σ ws).length
          · have : ((wipe (σ.set w x) (w :: ws))[w]?).getD none = none := by
              show (((wipe (σ.set w x) ws).set w none)[w]?).getD none = none
              rw [ih, List.set_set, List.getElem?_set_self hl]
              rfl
            rw [this]
          · rw [List.set_eq_of_length_le (by omega), List.set_eq_of_length_le (by omega)]
        · rw [ih, List.set_comm _ _ (Ne.symm hw)]
          congr 1
          show _ = ((wipe (σ.set i x) (w :: ws))[i]?).getD none
          show _ = (((wipe (σ.set i x) ws).set w none)[i]?).getD none
          rw [List.getElem?_set_ne hw]
    rcases List.mem_cons.mp h with rfl | h
    · rw [comm vs, List.set_set]
    · rw [wipe_mem h]
theorem slots_wipes {K : PySem.W.Frag} {G : Hp} {σ : L2.St} {δ : DS} (h : Slots K G σ δ) : ∀ vs : List Nat, Slots K G (wipe σ vs) (wipesS δ vs)
  | [] => h
  | v :: vs => Slots.wipe (slots_wipes h vs)
section
variable {X : Cx} {K : PySem.W.Frag} {E : XK} {e : DX} {pos pos' apos cpos p2 tpos : Pos} {a b c o ex value tg : Expr} {es rest ifs : List Expr} {da : DTE} {g : DTG} {gs : DTGs} {vs : List Nat}
theorem gw_name {i : Nat} {x : Str} (hN : X.N.Nodup) (hi : X.N[i]? = some x) (hx : Loc X.env.scope x) (hv : i ∈ vs := by decide) (hf : X.fn x = true ∨ X.env.scope.names.lookup x = some .local := by first | exact .inl rfl | exact .inr rfl | assumption) : PG X (.Name x pos) (tGw K vs (dName i)) := ⟨fun pins s σ H v u Q I r h => by
  refine (pg_name (pos := pos) hN hi hx hf).run pins s σ H v u Q I r ?_
  obtain ⟨x, δ, S, Z, n, gd, sl, rx, h, k⟩ := h
  exact k _ _ H S (wipe_mem hv) gd Ext.refl (sl.put rx) h⟩
theorem gws_nil : PGs X [] (tGws K vs dGNil) := ⟨fun pins s σ H v u Q I r h => by
  refine pgs_nil.run pins s σ H v u Q I r ?_
  obtain ⟨x, δ, S, Z, n, gd, sl, rx, h, k⟩ := h
  cases x with
  | nil => exact ⟨rx, k σ δ H S rfl gd Ext.refl sl h⟩
  | cons _ _ => exact h.elim⟩
theorem gws_cons (h1 : PG X a (tGw K vs g)) (h2 : PGs X es (tGws K vs gs)) (hs : (assignEach (a :: es) X.env).map (·.2) = assign a X.env :: (assignEach es X.env).map (·.2) := by rfl) : PGs X (a :: es) (tGws K vs (dGCons g gs)) := ⟨fun pins s σ H v u Q I r h => by
  refine (pgs_cons h1 h2 hs).run pins s σ H v u Q I r ?_
  obtain ⟨x, δ, S, Z, n, gd, sl, rx, h, k⟩ := h
  cases x with
  | nil => exact h.elim
  | cons d l =>
    obtain ⟨v1, vr, rfl, r1, r2⟩ := rx
    exact ⟨v1, vr, rfl, d, δ, S, Z, _, gd, sl, r1, h, fun σ' δ' H' S' w' g' x' s' h' => ⟨l, δ', S', Z, n, g', s', Reps.ext x' _ _ r2, h', fun σ'' δ'' H'' S'' w'' g'' x'' => k σ'' δ'' H'' S'' (w''.trans w') g'' (x'.trans x'')⟩⟩⟩
theorem gw_tup (hK : X.K = K) {k n : Nat} (hc : X.calm = true) (h : PGs X es (tGws K vs gs)) (hn : (assignEach es X.env).length = n := by rfl) (hst : (assignEach es X.env).findIdx? (·.1) = none := by rfl) : PG X (.Tuple es k pos) (tGw K vs (dGTup n gs)) := ⟨fun pins s σ H v u Q I r h0 => by
  subst hK
  refine (pg_tup (k := k) (pos := pos) hc h hn hst).run pins s σ H v u Q I r ?_
  obtain ⟨x, δ, S, Z, m, gd, sl, rx, h1, k⟩ := h0
  cases x with
  | tup l =>
    obtain ⟨p, ws, rfl, hp, hl⟩ := rx
    obtain ⟨h2, h3⟩ := LenIs.len h1
    exact ⟨p, ws, rfl, SqT.out hp, by rw [← hl.len]; exact h2, l, δ, S, Z, m, gd, sl, hl, h3, k⟩
  | _ => exact h1.elim⟩
theorem ts_nil : PTs X [] (tDT K E e dYes) := ⟨fun pins s σ H Q I h => by
  obtain ⟨δ, S, Z, q, t, h, k⟩ := h
  exact pts_nil.run pins s σ H Q I (k true H S t.good Ext.refl h)⟩
theorem ts_one {tt : DTT} (h : PT X c (tDT K E e tt)) : PTs X [c] (tDT K E e tt) := pts_one h
end
/-! the run -/
section
variable {K : PySem.W.Frag} {E : XK} {e : DX}
theorem lc_run {it : DTL} {wi : TI} {g : DTG} {tt : DTT} {te : DTE} {vs : List Nat} {qL : List Dt → Store → Prop} {σ : L2.St} {H : Hp} {Q : VK} {δ : DS} {S : Store} {Z : Hp}
    (t : At K E e Z H S σ δ) (h : dLc it g vs tt te qL δ S)
    (fin : ∀ D accV acc H' S', Z D = none → Good K (upd Z D (.lst accV)) H' S' → Ext (out H S Z) (out H' S' (upd Z D (.lst accV))) → Reps K (out H' S' (upd Z D (.lst accV))) acc accV → qL acc S' → Q (.ref D) H') :
    tLc (tDI K E e it) (tGw K vs g) (tDT K E0 noX tt) (tD K E0 noX te) vs σ H Q := by
  refine ⟨δ, S, Z, _, t, h, fun l keep H1 S1 J g1 x1 ok h1 => ?_⟩
  obtain ⟨hl, I, h0, hk, hs, hd⟩ := h1
  intro D nD
  have nZ := g1.nZ nD
  have sl1 := t.sl.ext x1
  refine lc_it (n := l.length) (G := fun H => ∃ Z' S, Good K Z' H S ∧ Ext (out H1 S1 Z) (out H S Z') ∧ keep S) (Y := fun i H x H' => J.yld i H x H') (Qd := fun H => Q (.ref D) H)
    ⟨fun i H hi ⟨Z', S, g, x, kp⟩ => ok.go Z' i H S g x kp hi, fun H ⟨Z', S, g, x, kp⟩ => ok.stop Z' H S g x kp, fun i H x H' _ _ y => y⟩
    (fun i H => ∃ S acc accV, Good K (upd Z D (.lst accV)) H S ∧ Ext (out H1 S1 Z) (out H S (upd Z D (.lst accV))) ∧ Reps K (out H S (upd Z D (.lst accV))) acc accV ∧ acc.length ≤ i ∧ I i acc S)
    ⟨S1, [], [], g1.hide nD, by rw [hide_out g1 nD]; exact Ext.refl, rfl, Nat.le_refl _, h0⟩
    (fun i H hi ⟨S, acc, accV, g, x, r, n, q⟩ => ⟨_, S, g, x, hk i acc S hi q⟩) (fun i x H H' hi hh y => ?_)
    (fun H ⟨S, acc, accV, g, x, r, n, q⟩ => fin D accV acc H S nZ g (x1.trans x) r (hd acc S q))
  obtain ⟨S2, acc, accV, g2, x2, r2, n2, q2⟩ := hh
  obtain ⟨d, e1, g3, x3, r3⟩ := ok.yld _ i H S2 x H' g2 x2 (hk i acc S2 (Nat.le_of_lt hi) q2) hi y
  have x23 := x2.trans x3
  refine ⟨d, _, S2, _, _, g3, slots_wipes (sl1.ext x23) vs, r3, hs i d acc S2 e1 q2, fun σ' δ' H4 S4 w4 g4 x4 s4 h4 => ?_⟩
  refine ⟨by rw [w4, wipe_wipe], δ', S4, _, _, ⟨g4, s4, lk_no⟩, h4, fun b H5 S5 g5 x5 h5 => ?_⟩
  have x45 := x4.trans x5
  cases b with
  | false => exact iteF ⟨S5, acc, accV, g5, x23.trans x45, Reps.ext (x3.trans x45) _ _ r2, Nat.le_succ_of_le n2, h5⟩
  | true =>
    refine iteT ⟨δ', S5, _, _, ⟨g5, s4.ext x5, lk_no⟩, h5, fun v z H6 S6 g6 x6 r6 h6 => ?_⟩
    have x46 := x45.trans x6
    have r7 := Reps.ext (x3.trans x46) _ _ r2
    refine ⟨accV, g6.at, by rw [← r7.len]; omega, S6, acc ++ [z], accV ++ [v], g6.rehide, ?_, ?_, by rw [List.length_append]; exact Nat.succ_le_succ n2, h6⟩
    · rw [rehide_out (o := .lst accV)]
      exact x23.trans x46
    · rw [rehide_out (o := .lst accV)]
      exact Reps.pair.mpr (Paired.app (Reps.pair.mp r7) (.cons r6 .nil))
where
  wipe_wipe {σ : L2.St} {vs : List Nat} : wipe (wipe σ vs) vs = wipe σ vs := by
    have go : ∀ ws : List Nat, (∀ v ∈ ws, v ∈ vs) → wipe (wipe σ ws) vs = wipe σ vs := fun ws => by
      induction ws with
      | nil => intro _; rfl
      | cons v ws ih =>
        intro h
        show wipe ((wipe σ ws).set v none) vs = _
        rw [wipe_mem (h v List.mem_cons_self)]
        exact ih fun w hw => h w (List.mem_cons_of_mem _ hw)
    exact go vs fun _ h => h
theorem lc_frozen {it : DTL} {g : DTG} {tt : DTT} {te : DTE} {vs : List Nat} {σ : L2.St} {H : Hp} {Q : VK} (h : tD K E e (dLcF it g vs tt te) σ H Q) : tLc (tDI K E e it) (tGw K vs g) (tDT K E0 noX tt) (tD K E0 noX te) vs σ H Q := by
  obtain ⟨δ, S, Z, q, t, h, k⟩ := h
  refine lc_run (wi := tDI K E e it) t h fun D accV acc H' S' nz g x r q' => ?_
  refine k _ (.lst acc) _ S' (g.bare nz) (x.trans (bare_ext g nz)) ⟨D, accV, rfl, ?_, Reps.ext (bare_ext g nz) _ _ r⟩ q'
  rw [out_of g.noS nz]
  exact g.at
end
section
variable {X : Cx} {K : PySem.W.Frag} {E : XK} {e : DX} {pos spos py : Pos} {elt tg iter : Expr} {ifs : List Expr} {scope : Scope} {own : List (Str × Nat)} {it : DTL} {g : DTG} {tt : DTT} {te : DTE}
theorem de_lc (calm : X.calm = true) (hN : X.N.Nodup) (hi : PI X tg iter (tDI K E e it)) (ok : BlkOk X.N X.env.scope scope own)
    (hg : ∀ (s : Shared) (H : Hp) (C : Addr) (cl : List (Str × Addr)) (fp : List Addr), PG (X.blk s H scope (compEnvC scope cl C X.env) fp) tg (tGw K (snds own) g))
    (ht : ∀ (s : Shared) (H : Hp) (C : Addr) (cl : List (Str × Addr)) (fp : List Addr), PTs (X.blk s H scope (compEnvC scope cl C X.env) fp) ifs (tDT K E0 noX tt))
    (he : ∀ (s : Shared) (H : Hp) (C : Addr) (cl : List (Str × Addr)) (fp : List Addr), PE (X.blk s H scope (compEnvC scope cl C X.env) fp) elt (tD K E0 noX te)) (hs : ∀ x, foldedSetIterable iter X.env x = pure x := by intro _; rfl) :
    PE X (.ListComp elt [⟨tg, iter, ifs, 0⟩] scope pos) (tD K E e (dLcF it g (snds own) tt te)) := by
  rw [snds_eq] at hg ⊢
  exact PE.imp (pe_lc calm hN hi ok hg ht he hs) fun σ H Q h => lc_frozen h
/-- y = [..], a local name -/
theorem ds_setLc {i : Nat} {y : Str} (calm : X.calm = true) (hN : X.N.Nodup) (hy : X.N[i]? = some y) (hyl : X.env.scope.names.lookup y = some .local) (hsw : swapsWith (.ListComp elt [⟨tg, iter, ifs, 0⟩] scope pos) (some (.Name y py)) spos.line X.env = pure true)
    (hi : PI X tg iter (tDI K E e it)) (ok : BlkOk X.N X.env.scope scope own)
    (hg : ∀ (s : Shared) (H : Hp) (C : Addr) (cl : List (Str × Addr)) (fp : List Addr), PG (X.blk s H scope (compEnvC scope cl C X.env) fp) tg (tGw K (snds own) g))
    (ht : ∀ (s : Shared) (H : Hp) (C : Addr) (cl : List (Str × Addr)) (fp : List Addr), PTs (X.blk s H scope (compEnvC scope cl C X.env) fp) ifs (tDT K E0 noX tt))
    (he : ∀ (s : Shared) (H : Hp) (C : Addr) (cl : List (Str × Addr)) (fp : List Addr), PE (X.blk s H scope (compEnvC scope cl C X.env) fp) elt (tD K E0 noX te)) (hs : ∀ x, foldedSetIterable iter X.env x = pure x := by intro _; rfl) :
    PS X (.Assign [.Name y py] (.ListComp elt [⟨tg, iter, ifs, 0⟩] scope pos) spos) (tDS K E e (dAsg (dLcF it g (snds own) tt te) (dName i))) := by
  rw [snds_eq] at hg ⊢
  exact PS.imp (ps_setLc calm hN hy hyl hsw hi ok hg ht he hs) fun D σ H h => by
    obtain ⟨δ, S, Z, DD, t, h, k⟩ := h
    exact lc_frozen ⟨δ, S, Z, _, t, h, fun v x H1 S1 g1 x1 r1 h1 => k.nx _ _ _ _ g1 x1 ((t.sl.ext x1).put r1) h1⟩
end
end Dn

/-! defs, methods, classes by their promises over deep values -/
namespace Dn
open PySem PySem.Spec PyProof.Rows L2 Pr
abbrev DSp := List Dt → Store → DK → DX → Prop
def spD (K : PySem.W.Frag) (c : DSp) : Sp := fun vs H Q E => ∃ ds S Z q e, Good K Z H S ∧ Reps K (out H S Z) ds vs ∧ Lk K E e Z (out H S Z) ∧ c ds S q e ∧ Ty K Z H S q Q
@[reducible] def appD : List Dt → List Dt → List Dt
  | [], m => m
  | x :: l, m => x :: appD l m
theorem appD_eq : ∀ l m : List Dt, appD l m = l ++ m
  | [], _ => rfl
  | x :: l, m => by show x :: appD l m = x :: (l ++ m); rw [appD_eq l m]
@[reducible] def startD : Nat → List Dt → DS
  | 0, _ => []
  | n + 1, [] => none :: startD n []
  | n + 1, d :: l => some d :: startD n l
/-- what defaults are worth, everywhere -/
def Dfl (K : PySem.W.Frag) (dds : List Dt) (dvs : List V) : Prop := ∀ G, Reps K G dds dvs
@[reducible] def dCall (c : DSp) (dds : List Dt) (e : DX) (t : DTA) : DTE := fun δ S q => t δ S fun ds S1 => c (appD ds dds) S1 q e
@[reducible] def isIns (C : Addr) (nm : List Str) (x : Dt) (S : Store) (A : Prop) : Prop := match x with
  | .obj C' nm' _ => (C' = C ∧ nm' = nm) ∧ A
  | .ref a => ∃ l, S a = some (.ins C nm l) ∧ A
  | _ => False
@[reducible] def dMeth (C : Addr) (nm : List Str) (c : DSp) (dds : List Dt) (e : DX) (o : DTE) (t : DTA) : DTE := fun δ S q => o δ S fun x S1 => isIns C nm x S1 (t δ S1 fun ds S2 => c (x :: appD ds dds) S2 q e)
@[reducible] def dMake (C : Addr) (nm : List Str) (c : DSp) (dds : List Dt) (e : DX) (t : DTA) : DTE := fun δ S q => t δ S fun ds S1 => ∀ p, S1 p = none → c (.ref p :: appD ds dds) (sput S1 p (.ins C nm [])) (fun v S2 => v = .non ∧ q (.ref p) S2) e
section
variable {P : Program} {w : World} {K : PySem.W.Frag} {mg : Str → Option Value} {base : Heap} {x qual : Str} {params : Arguments} {body : List Stmt} {scope : Scope} {dvs : List V} {f : Addr} {fd : FuncData} {N ps : List Str} {k : Nat}
theorem start_slots {G : Hp} : ∀ (N : List Str) (ds : List Dt) (vs : List V), Reps K G ds vs → vs.length ≤ N.length → Slots K G (start N vs) (startD N.length ds) := fun N ds vs => by
  have go : ∀ (n : Nat) (ds : List Dt) (vs : List V), Reps K G ds vs → vs.length ≤ n → Slots K G (vs.map some ++ List.replicate (n - vs.length) none) (startD n ds) := fun n => by
    induction n with
    | zero =>
      intro ds vs r h
      have : vs = [] := List.eq_nil_of_length_eq_zero (by omega)
      subst this
      exact .nil
    | succ n ih =>
      intro ds vs r h
      cases ds with
      | nil =>
        have : vs = [] := r
        subst this
        have := ih [] [] rfl (Nat.zero_le _)
        show Slots K G (List.replicate (n + 1) none) (none :: startD n [])
        exact .cons (fun x hx => by cases hx) (by simpa [Slots] using this)
      | cons d l =>
        obtain ⟨v, vr, rfl, r1, r2⟩ := r
        have := ih l vr r2 (by simpa using h)
        show Slots K G (some v :: (vr.map some ++ List.replicate (n + 1 - (vr.length + 1)) none)) (some d :: startD n l)
        rw [show n + 1 - (vr.length + 1) = n - vr.length by omega]
        exact .cons (fun x hx => by cases hx; exact ⟨v, rfl, r1⟩) this
  exact go N.length ds vs
/-- THE RULE for a def -/
theorem dfn {c : DSp} {kws : List (Str × V)} (n : Nat) (F : FunD K x qual params body scope dvs kws f fd) (S : FnScope N ps scope) (len : ∀ ds S q e, c ds S q e → ds.length = ps.length) (hn : N.length = n := by rfl)
    (run : ∀ (cdv : Value) (A : Around) (outer : List Env) (s : Shared) (H : Hp) (E : XK) (e : DX), Room k (A.deeper (envOfC qual scope s.heap.objs.size f cdv)) →
      ∃ t, PSs (cxOf (L2.CX P w) P w K mg base N qual scope f cdv A outer s H E) body (tDS K E e t) ∧ ∀ ds S q, c ds S q e → t { nx := fun _ S => q .non S, rt := q } (startD n ds) S) : FnOk P w K mg base (L2.CX P w) (k + 1) f fd ps (spD K c) := by
  refine F.ok S (fun vs H Q E h => ?_) (fun cdv A outer s H vs Q E hr h => ?_)
  · obtain ⟨ds, S, Z, q, e, g, r, l, h, k⟩ := h
    rw [← r.len]
    exact len ds S q e h
  · obtain ⟨ds, S', Z, q, e, g, r, l, h, kk⟩ := h
    obtain ⟨t, p, h2⟩ := run cdv A outer s H E e hr
    refine ⟨_, p, _, S', Z, _, ⟨g, ?_, l⟩, h2 ds S' q h, ?_⟩
    · rw [← hn]
      refine start_slots N ds vs r ?_
      rw [← r.len, len ds S' q e h]
      have := congrArg List.length S.pre
      rw [List.length_take] at this
      omega
    · exact ⟨fun σ δ H S g x s q => kk .non .non H S g x rfl q, fun v d H S g x r q => kk v d H S g x r q, fun _ _ _ _ _ _ _ h => h, fun _ _ _ _ _ _ _ h => h⟩
end
section
variable {X : Cx} {K : PySem.W.Frag} {E : XK} {e : DX} {k j : Nat} {x m : Str} {C : Addr} {c : DSp} {dvs : List V} {dds : List Dt} {p pos apos : Pos} {a o : Expr} {es : List Expr} {ts : DTA} {da : DTE} {nm : List Str}
theorem tD_call (hd : Dfl K dds dvs) {σ : L2.St} {H : Hp} {Q : VK} (h : tD K E e (dCall c dds e ts) σ H Q) : tCall (spD K c) dvs E (tDA K E e ts) σ H Q := by
  obtain ⟨δ, S, Z, q, t, h, k⟩ := h
  refine ⟨δ, S, Z, _, t, h, fun vs ds H1 S1 g1 x1 r1 h1 => ⟨appD ds dds, S1, Z, q, e, g1, ?_, t.lk.ext x1, h1, k.ext x1⟩⟩
  rw [appD_eq]
  exact Reps.pair.mpr (Paired.app (Reps.pair.mp r1) (Reps.pair.mp (hd _)))
theorem dfl_nil : Dfl K [] [] := fun _ => rfl
theorem de_call (hK : X.K = K) (cl : CalX X.prog X.w K X.mg X.base k x (spD K c) dvs) (hd : Dfl K dds dvs) (hr : Room j X.A) (hk : k ≤ j) (hg : Gl X x) (hx : Passes (L2.CX X.prog X.w) X E) (ha : PA X (a :: es) (tDA K E e ts)) (hdb : (x == ("__debug__" : Str)) = false := by decide)
    (he : starEach (a :: es) X.env = (false, eval a X.env) :: starEach es X.env := by rfl) (hpl : (backTo pos (starEach es X.env)).any (·.1) = false := by rfl) : PE X (.Call (.Name x p) (a :: es) [] pos) (tD K E e (dCall c dds e ts)) := by
  subst hK
  exact PE.imp (pe_cX cl hr hk hg hx ha hdb he hpl) fun σ H Q h => tD_call hd h
theorem ins_of {Z H : Hp} {S : Store} {v : V} {d : Dt} (g : Good K Z H S) (r : Rep K (out H S Z) d v) (hm : m ∉ nm) {A : Prop} (h : isIns C nm d S A) : (∃ a dx fs, v = .ref a ∧ H a = some (.ins C dx fs) ∧ fs.lookup m = none) ∧ A := by
  have look : ∀ (n : Nat) (vs : List V), ((nm.take n).zip vs).lookup m = none := fun n vs => by
    rw [List.lookup_eq_none_iff]
    intro p hp
    have := List.of_mem_zip hp
    have h1 : p.1 ≠ m := fun z => hm (z ▸ List.mem_of_mem_take this.1)
    simpa using Ne.symm h1
  cases d with
  | obj C' nm' l =>
    obtain ⟨⟨rfl, rfl⟩, h⟩ := h
    obtain ⟨a, dx, vs, rfl, h1, _⟩ := r
    exact ⟨⟨a, dx, _, rfl, out_le h1, look _ _⟩, h⟩
  | ref a =>
    obtain ⟨l, h1, h2⟩ := h
    obtain ⟨ob, h3, dx, vs, rfl, _⟩ := g.c a _ h1
    exact ⟨⟨a, dx, _, r, h3, look _ _⟩, h2⟩
  | _ => exact h.elim
theorem de_meth (hK : X.K = K) {pl : Sem Bool} (cl : MetX X.prog X.w K X.mg X.base k C m (spD K c) dvs) (hm : m ∉ nm) (hd : Dfl K dds dvs) (hr : Room j X.A) (hk : k ≤ j) (hx : Passes (L2.CX X.prog X.w) X E) (ho : PE X o (tD K E e da)) (ha : PA X (a :: es) (tDA K E e ts))
    (hst : starEach (a :: es) X.env = (false, eval a X.env) :: starEach es X.env := by rfl) (hpl : (backTo pos (starEach es X.env)).any (·.1) = false := by rfl)
    (ht : eval (.Call (.Attribute o m apos) (a :: es) [] pos) X.env = (do
      let ov ← eval o X.env
      standAt apos.atName
      let (f, first) ← holding [ov] (getMethod ov m pl)
      callWith pos f first (backTo pos (starEach (a :: es) X.env)) (backToKw pos (keywordEach [] X.env))) := by rfl) :
    PE X (.Call (.Attribute o m apos) (a :: es) [] pos) (tD K E e (dMeth C nm c dds e da ts)) := by
  subst hK
  refine PE.imp (pe_mX cl hr hk hx ho ha hst hpl ht) fun σ H Q h => ?_
  obtain ⟨δ, S, Z, q, t, h, k⟩ := h
  refine ⟨δ, S, Z, _, t, h, fun v x H1 S1 g1 x1 r1 h1 => ?_⟩
  obtain ⟨⟨b, dx, fs, rfl, h2, h3⟩, h4⟩ := ins_of g1 r1 hm h1
  refine ⟨b, dx, fs, rfl, h2, h3, δ, S1, Z, _, t.to g1 x1, h4, fun vs ds H2 S2 g2 x2 r2 h5 => ⟨x :: appD ds dds, S2, Z, q, e, g2, ⟨.ref b, _, rfl, Rep.ext x2 _ _ r1, ?_⟩, t.lk.ext (x1.trans x2), h5, k.ext (x1.trans x2)⟩⟩
  rw [appD_eq]
  exact Reps.pair.mpr (Paired.app (Reps.pair.mp r2) (Reps.pair.mp (hd _)))
theorem de_meth0 (hK : X.K = K) {pl : Sem Bool} (cl : MetX X.prog X.w K X.mg X.base k C m (spD K c) dvs) (hm : m ∉ nm) (hd : Dfl K dds dvs) (hr : Room j X.A) (hk : k ≤ j) (hx : Passes (L2.CX X.prog X.w) X E) (ho : PE X o (tD K E e da))
    (ht : eval (.Call (.Attribute o m apos) [] [] pos) X.env = (do
      let ov ← eval o X.env
      standAt apos.atName
      let (f, first) ← holding [ov] (getMethod ov m pl)
      callWith pos f first (backTo pos (starEach [] X.env)) (backToKw pos (keywordEach [] X.env))) := by rfl) :
    PE X (.Call (.Attribute o m apos) [] [] pos) (tD K E e (dMeth C nm c dds e da dNil)) := by
  subst hK
  refine PE.imp (pe_mX0 cl hr hk hx ho ht) fun σ H Q h => ?_
  obtain ⟨δ, S, Z, q, t, h, k⟩ := h
  refine ⟨δ, S, Z, _, t, h, fun v x H1 S1 g1 x1 r1 h1 => ?_⟩
  obtain ⟨⟨b, dx, fs, rfl, h2, h3⟩, h4⟩ := ins_of g1 r1 hm h1
  exact ⟨b, dx, fs, rfl, h2, h3, x :: appD [] dds, S1, Z, q, e, g1, ⟨.ref b, _, rfl, r1, hd _⟩, t.lk.ext x1, h4, k.ext x1⟩
theorem tD_make (hd : Dfl K dds dvs) {σ : L2.St} {H : Hp} {Q : VK} (h : tD K E e (dMake C nm c dds e ts) σ H Q) : tMake C (spD K c) dvs E (tDA K E e ts) σ H Q := by
  obtain ⟨δ, S, Z, q, t, h, k⟩ := h
  refine ⟨δ, S, Z, _, t, h, fun vs ds H1 S1 g1 x1 r1 h1 p dx np ndx ne => ?_⟩
  have g2 := g1.new (o := .own p) ndx
  have np2 : upd H1 dx (.own p) p = none := by rw [upd_ne (Ne.symm ne)]; exact np
  have g3 : Good K Z (upd (upd H1 dx (.own p)) p (.ins C dx [])) (sput S1 p (.ins C nm [])) := g2.own np2 (c := .ins C nm []) ⟨dx, [], by simp, rfl, Nat.zero_le _⟩
  have o3 := out_own (o := .ins C dx []) g2 np2 (c := .ins C nm [])
  have x3 : Ext (out H1 S1 Z) (out (upd (upd H1 dx (.own p)) p (.ins C dx [])) (sput S1 p (.ins C nm [])) Z) := by rw [o3]; exact ext_new g1 ndx
  refine ⟨.ref p :: appD ds dds, _, Z, _, e, g3, ⟨.ref p, _, rfl, rfl, ?_⟩, t.lk.ext (x1.trans x3), h1 p (g1.nS np), ?_⟩
  · rw [appD_eq]
    exact Reps.pair.mpr (Paired.app (Reps.pair.mp (Reps.ext x3 _ _ r1)) (Reps.pair.mp (hd _)))
  · intro v d H4 S4 g4 x4 r4 h4
    obtain ⟨rfl, h4⟩ := h4
    exact ⟨r4, k (.ref p) (.ref p) H4 S4 g4 (x1.trans (x3.trans x4)) rfl h4⟩
theorem de_make (hK : X.K = K) (cl : MakX X.prog X.w K X.mg X.base k x C (spD K c) dvs) (hd : Dfl K dds dvs) (hr : Room j X.A) (hk : k + 1 ≤ j) (hg : Gl X x) (hx : Passes (L2.CX X.prog X.w) X E) (ha : PA X (a :: es) (tDA K E e ts)) (hdb : (x == ("__debug__" : Str)) = false := by decide)
    (he : starEach (a :: es) X.env = (false, eval a X.env) :: starEach es X.env := by rfl) (hpl : (backTo pos (starEach es X.env)).any (·.1) = false := by rfl) : PE X (.Call (.Name x p) (a :: es) [] pos) (tD K E e (dMake C nm c dds e ts)) := by
  subst hK
  exact PE.imp (pe_mkX cl hr hk hg hx ha hdb he hpl) fun σ H Q h => tD_make hd h
theorem de_make0 (hK : X.K = K) (cl : MakX X.prog X.w K X.mg X.base k x C (spD K c) dvs) (hd : Dfl K dds dvs) (hr : Room j X.A) (hk : k + 1 ≤ j) (hg : Gl X x) (hx : Passes (L2.CX X.prog X.w) X E) (hdb : (x == ("__debug__" : Str)) = false := by decide) :
    PE X (.Call (.Name x p) [] [] pos) (tD K E e (dMake C nm c dds e dNil)) := by
  subst hK
  refine PE.imp (pe_mkX0 cl hr hk hg hx hdb) fun σ H Q h => ?_
  have h2 := tD_make (ts := dNil) hd h
  exact h2_nil h2
where
  h2_nil {X : Cx} {E : XK} {e : DX} {C : Addr} {c : DSp} {dvs : List V} {σ : L2.St} {H : Hp} {Q : VK} (h : tMake C (spD X.K c) dvs E (tDA X.K E e dNil) σ H Q) : tMake C (spD X.K c) dvs E tNil σ H Q := by
    obtain ⟨δ, S, Z, q, t, h, k⟩ := h
    exact k [] [] H S t.good Ext.refl rfl h
end
end Dn

/-! what is built in -/
namespace Dn
open PySem PySem.Spec PyProof.Rows L2 Pr
@[reducible] def rcLen : DCr := fun xs S q => match xs with
  | [.str z] => q (.int z.length) S
  | [.lst l] => q (.int l.length) S
  | [.tup l] => q (.int l.length) S
  | [.ref a] => ∃ c, S a = some c ∧ (match c with
    | .lst l => q (.int l.length) S
    | .dic l => q (.int l.length) S
    | _ => False)
  | _ => False
@[reducible] def rcAbs : DCr := fun xs S q => match xs with
  | [.int i] => q (.int (if i < 0 then -i else i)) S
  | _ => False
@[reducible] def rcInt : DCr := fun xs S q => match xs with
  | [.int i] => q (.int i) S
  | [.bl b] => q (.int (if b then 1 else 0)) S
  | _ => False
/-- list(x), a new list that stands still or will change -/
@[reducible] def rcListF : DCr := fun xs S q => match xs with
  | [x] => seeQ x S fun l => q (.lst l) S
  | _ => False
/-- isinstance(x, str) and the like -/
@[reducible] def tyN (x : Dt) (k : String → Prop) : Prop := match x with
  | .str _ => k "str"
  | .int _ => k "int"
  | .bl _ => k "bool"
  | .non => k "NoneType"
  | .tup _ => k "tuple"
  | .ptp _ => k "tuple"
  | .lst _ => k "list"
  | .dic _ => k "dict"
  | _ => False
@[reducible] def rcIsi (n : String) : DCr := fun xs S q => match xs with
  | [x, .ty m] => m = n ∧ tyN x fun t => ∃ b, kitB t n = some b ∧ q (.bl b) S
  | _ => False
section
variable {X : Cx} {K : PySem.W.Frag}
theorem cd_len (hK : X.K = K) : CallR X (.builtin "len") (rDC K rcLen) := fun pins s σ H xs us Q I r ⟨ds, S, Z, q, g, rs, h, k⟩ => by
  subst hK
  match ds, h with
  | [.str z], h =>
    obtain ⟨v, rfl, rv⟩ := reps1 rs
    exact call_len pins s σ H _ us Q I r ⟨v, z.length, rfl, by rw [rv.1]; exact ⟨rv.2.len, rfl⟩, k.here g h rfl⟩
  | [.lst l], h =>
    obtain ⟨v, rfl, rv⟩ := reps1 rs
    obtain ⟨a, vs, rfl, h1, h2⟩ := rv
    exact call_len pins s σ H _ us Q I r ⟨_, vs.length, rfl, .inl ⟨vs, SqL.of (out_le h1), rfl⟩, by rw [← h2.len]; exact k.here g h rfl⟩
  | [.tup l], h =>
    obtain ⟨v, rfl, rv⟩ := reps1 rs
    obtain ⟨a, vs, rfl, h1, h2⟩ := rv
    exact call_len pins s σ H _ us Q I r ⟨_, vs.length, rfl, .inr ⟨vs, SqT.out h1, rfl⟩, by rw [← h2.len]; exact k.here g h rfl⟩
  | [.ref a], h =>
    obtain ⟨v, rfl, rv⟩ := reps1 rs
    obtain rfl := (show v = _ from rv)
    obtain ⟨c, h1, h2⟩ := h
    obtain ⟨o, h3, h4⟩ := g.c a _ h1
    cases c with
    | lst l => obtain ⟨vs, rfl, h5⟩ := h4; exact call_len pins s σ H _ us Q I r ⟨_, vs.length, rfl, .inl ⟨vs, SqL.of h3, rfl⟩, by rw [← h5.len]; exact k.here g h2 rfl⟩
    | dic l => obtain ⟨vs, rfl, h5⟩ := h4; exact call_lenD pins s σ H _ us Q I r ⟨_, vs, rfl, h3, by rw [← h5.len]; exact k.here g h2 rfl⟩
    | _ => exact h2.elim
theorem cd_abs : CallR X (.builtin "abs") (rDC K rcAbs) := fun pins s σ H xs us Q I r ⟨ds, S, Z, q, g, rs, h, k⟩ => by
  match ds, h with
  | [.int i], h =>
    obtain ⟨v, rfl, rv⟩ := reps1 rs
    exact call_absN pins s σ H _ us Q I r ⟨i, by rw [show v = _ from rv], k.here g h rfl⟩
theorem cd_int : CallR X (.type "int") (rDC K rcInt) := fun pins s σ H xs us Q I r ⟨ds, S, Z, q, g, rs, h, k⟩ => by
  match ds, h with
  | [.int i], h =>
    obtain ⟨v, rfl, rv⟩ := reps1 rs
    exact call_int1N pins s σ H _ us Q I r (.inl ⟨i, by rw [show v = _ from rv], k.here g h rfl⟩)
  | [.bl b], h =>
    obtain ⟨v, rfl, rv⟩ := reps1 rs
    exact call_int1N pins s σ H _ us Q I r (.inr ⟨b, by rw [show v = _ from rv], k.here g h rfl⟩)
theorem one_arg {ds : List Dt} {P : Dt → Prop} (h : match ds with
  | [x] => P x
  | _ => False) : ∃ x, ds = [x] ∧ P x := by
  match ds, h with
  | [x], h => exact ⟨x, rfl, h⟩
theorem cd_listF (hK : X.K = K) : CallR X (.type "list") (rDC K rcListF) := fun pins s σ H xs us Q I r ⟨ds, S, Z, q, g, rs, h, k⟩ => by
  subst hK
  obtain ⟨x, rfl, h⟩ := one_arg h
  obtain ⟨v, rfl, rv⟩ := reps1 rs
  obtain ⟨a, vs, l, rfl, h1, h2, h3⟩ := see_seq g rv h
  exact call_list_of pins s σ H _ us Q I r ⟨a, vs, rfl, h1, fun p np => k.new g np h3 ⟨p, vs, rfl, out_new g np, Reps.ext (ext_new g np) _ _ h2⟩⟩
theorem keyD_rep {G : Hp} {k : Key} {v : V} (h : Rep K G (keyD k) v) : v = kV k ∧ KOk k := by
  cases k with
  | inl i => exact ⟨h, trivial⟩
  | inr z => exact ⟨h.1, h.2⟩
theorem pairs_rep {Z H : Hp} {S : Store} : ∀ {m : List (Key × Dt)} {vs : List V}, Reps K (out H S Z) (m.map fun p => Dt.tup [keyD p.1, p.2]) vs →
    ∃ (ps : List Addr) (kvs : List (Key × V)), vs = ps.map V.ref ∧ Paired (fun p kv => SqT K H p [kV kv.1, kv.2]) ps kvs ∧ KR KOk K (out H S Z) m kvs
  | [], vs, h => by
    rw [show vs = [] from h]
    exact ⟨[], [], rfl, .nil, .nil⟩
  | (key, d) :: m, vs, h => by
    obtain ⟨v, r, rfl, h1, h2⟩ := h
    obtain ⟨ps, kvs, rfl, h3, h4⟩ := pairs_rep h2
    obtain ⟨a, us, rfl, h5, h6⟩ := h1
    obtain ⟨u1, u2, rfl, h7, h8⟩ := reps2 h6
    obtain ⟨rfl, ko⟩ := keyD_rep h7
    exact ⟨a :: ps, (key, u2) :: kvs, rfl, .cons (SqT.out h5) h3, .cons ⟨rfl, ko, h8⟩ h4⟩
theorem tyN_of {Z H : Hp} {S : Store} {x : Dt} {v : V} {f : String → Prop} (r : Rep K (out H S Z) x v) (h : tyN x f) : ∃ t, TyX K H v (.type t) ∧ f t := by
  cases x with
  | str z => rw [r.1]; exact ⟨_, .base (.str z), h⟩
  | int i => rw [show v = _ from r]; exact ⟨_, .base (.int i), h⟩
  | bl b => rw [show v = _ from r]; exact ⟨_, .base (.bl b), h⟩
  | non => rw [show v = _ from r]; exact ⟨_, .base .non, h⟩
  | ptp l =>
    obtain ⟨a, vs, rfl, h1, h2⟩ := r
    rcases SqT.out (K := K) (ptp_sq h1) with (h1 | ⟨o, h1⟩) | ⟨o, its, n, h1, h3, _⟩
    · exact ⟨_, .base (.tup h1), h⟩
    · exact ⟨_, .fTuple h1, h⟩
    · exact ⟨_, .kTuple h1 h3, h⟩
  | tup l =>
    obtain ⟨a, vs, rfl, h1, h2⟩ := r
    rcases SqT.out h1 with (h1 | ⟨o, h1⟩) | ⟨o, its, n, h1, h3, _⟩
    · exact ⟨_, .base (.tup h1), h⟩
    · exact ⟨_, .fTuple h1, h⟩
    · exact ⟨_, .kTuple h1 h3, h⟩
  | lst l =>
    obtain ⟨a, vs, rfl, h1, h2⟩ := r
    exact ⟨_, .base (.lst (out_le h1)), h⟩
  | dic l =>
    obtain ⟨a, vs, rfl, h1, h2⟩ := r
    rcases Rd.out h1 with h1 | ⟨o, h1⟩
    · exact ⟨_, .base (.dK h1), h⟩
    · exact ⟨_, .fDict h1, h⟩
  | _ => exact h.elim
theorem cd_isi {n : String} (hK : X.K = K) : CallR X (.builtin "isinstance") (rDC K (rcIsi n)) := fun pins s σ H xs us Q I r ⟨ds, S, Z, q, g, rs, h, k⟩ => by
  subst hK
  match ds, h with
  | [x, .ty m], h =>
    obtain ⟨rfl, h⟩ := h
    obtain ⟨v, w, rfl, rv, rw'⟩ := reps2 rs
    obtain rfl := (show w = _ from rw')
    obtain ⟨t, ty, b, e, h⟩ := tyN_of rv h
    exact call_isi pins s σ H _ us Q I r ⟨v, .ty m, _, _, b, rfl, .ty m, ty, kit_ty e, k.here g h rfl⟩
/-! ## methods of lists -/
@[reducible] def rmAppend : DMr := fun x xs S q => match x, xs with
  | .ref a, [y] => ∃ l, S a = some (.lst l) ∧ l.length < sizeLine ∧ q .non (sput S a (.lst (l ++ [y])))
  | _, _ => False
@[reducible] def rmPop0 : DMr := fun x xs S q => match x, xs with
  | .ref a, [] => ∃ l, S a = some (.lst l) ∧ ∃ y, l[l.length - 1]? = some y ∧ q y (sput S a (.lst l.dropLast))
  | _, _ => False
@[reducible] def rmPop : DMr := fun x xs S q => match x, xs with
  | .ref a, [.int i] => ∃ l, S a = some (.lst l) ∧ (0 ≤ i ∧ i < l.length ∧ i < 2 ^ 63) ∧ ∃ y, l[i.toNat]? = some y ∧ q y (sput S a (.lst (l.eraseIdx i.toNat)))
  | _, _ => False
@[reducible] def rmInsert : DMr := fun x xs S q => match x, xs with
  | .ref a, [.int i, y] => ∃ l, S a = some (.lst l) ∧ (l.length < sizeLine ∧ 0 ≤ i ∧ i < 2 ^ 63) ∧ q .non (sput S a (.lst (l.take i.toNat ++ [y] ++ l.drop i.toNat)))
  | _, _ => False
theorem md_append : MtR X "list.append" (rDM K rmAppend) := fun pins s σ H x xs v us Q I rx r ⟨d, ds, S, Z, q, g, rd, rs, h, k⟩ => by
  match d, ds, h with
  | .ref a, [y], h =>
    obtain ⟨l, h1, h2, h3⟩ := h
    obtain ⟨w, rfl, rw'⟩ := reps1 rs
    obtain ⟨o, h4, vs, rfl, h5⟩ := g.c a _ h1
    have cr : CRep K (out H S Z) (.lst (l ++ [y])) (.lst (vs ++ [w])) := ⟨_, rfl, Reps.pair.mpr (Paired.app (Reps.pair.mp h5) (.cons rw' .nil))⟩
    exact mt_append pins s σ H x _ v us Q I rx r ⟨a, vs, w, rd, rfl, h4, by rw [← h5.len]; exact h2, k _ .non _ _ (g.mut h1 cr) (by rw [out_mut h1]; exact Ext.refl) rfl h3⟩
theorem reps_nil {G : Hp} {vs : List V} (h : Reps K G [] vs) : vs = [] := h
theorem md_pop0 : MtR X "list.pop" (rDM K rmPop0) := fun pins s σ H x xs v us Q I rx r ⟨d, ds, S, Z, q, g, rd, rs, h, k⟩ => by
  match d, ds, h with
  | .ref a, [], h =>
    obtain ⟨l, h1, y, h2, h3⟩ := h
    have e1 := reps_nil rs
    obtain ⟨o, h4, vs, rfl, h5⟩ := g.c a _ h1
    obtain ⟨w, h6, h7⟩ := Paired.get (Reps.pair.mp h5) h2
    have cr : CRep K (out H S Z) (.lst l.dropLast) (.lst vs.dropLast) := ⟨_, rfl, Reps.pair.mpr (by
      rw [List.dropLast_eq_take, List.dropLast_eq_take, h5.len]
      exact Paired.take _ (Reps.pair.mp h5))⟩
    exact mt_pop pins s σ H x _ v us Q I rx r ⟨a, vs, w, rd, e1, h4, by rw [← h5.len]; exact h6, k w y _ _ (g.mut h1 cr) (by rw [out_mut h1]; exact Ext.refl) (by rw [out_mut h1]; exact h7) h3⟩
theorem Paired.erase {α β : Type} {F : α → β → Prop} : ∀ {l : List α} {m : List β} (i : Nat), Paired F l m → Paired F (l.eraseIdx i) (m.eraseIdx i)
  | _, _, _, .nil => .nil
  | _, _, 0, .cons _ t => t
  | _, _, i + 1, .cons r t => .cons r (Paired.erase i t)
theorem md_pop : MtR X "list.pop" (rDM K rmPop) := fun pins s σ H x xs v us Q I rx r ⟨d, ds, S, Z, q, g, rd, rs, h, k⟩ => by
  match d, ds, h with
  | .ref a, [.int i], h =>
    obtain ⟨l, h1, ⟨i0, i1, i2⟩, y, h2, h3⟩ := h
    obtain ⟨w, rfl, rw'⟩ := reps1 rs
    obtain ⟨o, h4, vs, rfl, h5⟩ := g.c a _ h1
    obtain ⟨w2, h6, h7⟩ := Paired.get (Reps.pair.mp h5) h2
    have cr : CRep K (out H S Z) (.lst (l.eraseIdx i.toNat)) (.lst (vs.eraseIdx i.toNat)) := ⟨_, rfl, Reps.pair.mpr (Paired.erase _ (Reps.pair.mp h5))⟩
    have lv := h5.len
    have e2 : seqIndex? i vs.length = some i.toNat := by
      unfold seqIndex?
      have h1 : ¬ i < 0 := by omega
      have h2 : i < (vs.length : Int) := by omega
      simp [h1, i0, h2]
    exact mt_popAt pins s σ H x _ v us Q I rx r ⟨a, vs, i, i.toNat, w2, rd, by rw [show w = _ from rw'], h4, by omega, i2, e2, h6, k w2 y _ _ (g.mut h1 cr) (by rw [out_mut h1]; exact Ext.refl) (by rw [out_mut h1]; exact h7) h3⟩
theorem md_insert : MtR X "list.insert" (rDM K rmInsert) := fun pins s σ H x xs v us Q I rx r ⟨d, ds, S, Z, q, g, rd, rs, h, k⟩ => by
  match d, ds, h with
  | .ref a, [.int i, y], h =>
    obtain ⟨l, h1, ⟨l1, i0, i1⟩, h3⟩ := h
    obtain ⟨w, w2, rfl, rw1, rw2⟩ := reps2 rs
    obtain ⟨o, h4, vs, rfl, h5⟩ := g.c a _ h1
    have cr : CRep K (out H S Z) (.lst (l.take i.toNat ++ [y] ++ l.drop i.toNat)) (.lst (vs.take i.toNat ++ [w2] ++ vs.drop i.toNat)) := ⟨_, rfl, Reps.pair.mpr (Paired.app (Paired.app (Paired.take _ (Reps.pair.mp h5)) (.cons rw2 .nil)) (Paired.drop _ (Reps.pair.mp h5)))⟩
    exact mt_insert pins s σ H x _ v us Q I rx r ⟨a, vs, i, w2, rd, by rw [show w = _ from rw1], h4, by rw [← h5.len]; exact l1, i0, i1, k _ .non _ _ (g.mut h1 cr) (by rw [out_mut h1]; exact Ext.refl) rfl h3⟩
end
/-! ## tuple(x) -/
@[reducible] def dTupOf (a : DTE) : DTE := fun δ S q => a δ S fun x S1 => seeQ x S1 fun l => q (.tup l) S1
theorem de_tupOf {X : Cx} {K : PySem.W.Frag} {E : XK} {e : DX} {p pos : Pos} {a : Expr} {da : DTE} (hK : X.K = K) (hg : Gl X "tuple") (hm : X.mg "tuple" = none) (ha : PE X a (tD K E e da)) (na : starEach [a] X.env = (false, eval a X.env) :: starEach [] X.env := by rfl) :
    PE X (.Call (.Name "tuple" p) [a] [] pos) (tD K E e (dTupOf da)) := PE.imp (pe_tupleOfK (p := p) (pos := pos) hK hg hm ha na) fun σ H Q h => by
  refine tD_seq (f := fun x S q => seeQ x S fun l => q (.tup l) S) h fun v x δ S Z H1 q t r h k => ?_
  have lists : (seeL x S fun l => q (.tup l) S) → kTup K v H1 Q := fun h => by
    obtain ⟨a, vs, l, rfl, h1, h2, h3⟩ := see_lst t.good r h
    exact .inl ⟨a, vs, rfl, SqL.of h1, fun p np => k.new t.good np h3 ⟨p, vs, rfl, SqT.of (out_new t.good np), Reps.ext (ext_new t.good np) _ _ h2⟩⟩
  cases x with
  | tup m =>
    obtain ⟨b, ws, e1, h4, h5⟩ := r
    cases e1
    exact .inr ⟨_, _, rfl, SqT.out h4, k.here t.good (show q (.tup m) S from h) ⟨_, _, rfl, h4, h5⟩⟩
  | ptp m =>
    obtain ⟨b, ws, e1, h4, h5⟩ := r
    cases e1
    exact .inr ⟨_, _, rfl, SqT.out (ptp_sq h4), k.here t.good (show q (.tup m) S from h) ⟨_, _, rfl, ptp_sq h4, h5⟩⟩
  | _ => exact lists h
end Dn

/-! lambdas: told(lambda: ..), kept -/
namespace Dn
open PySem PySem.Spec PyProof.Rows L2 Pr LamX NdefX
theorem cell_ext {K : PySem.W.Frag} {G : Hp} {x : Cell} {φ : Heap → Prop} (h : CRep K G x (.ext φ)) : False := by
  cases x with
  | tbl q => obtain ⟨_, h, _⟩ := h; cases h
  | gtb => obtain ⟨_, h, _⟩ := h; cases h
  | lst l => obtain ⟨_, h, _⟩ := h; cases h
  | dic l => obtain ⟨_, h, _⟩ := h; cases h
  | dct l => obtain ⟨_, h, _⟩ := h; cases h
  | lck u l => obtain ⟨_, _, _, h, _⟩ := h; cases h
  | ins C nm l => obtain ⟨_, _, h, _⟩ := h; cases h
section
variable {K : PySem.W.Frag} {Z H H1 : Hp} {S : Store} {P : Addr} {q : Str}
/-- a thing that is known by its object alone stands still -/
theorem out_ext (g : Good K Z H S) (x : OnlyT P H H1) (hP : ∀ φ, H1 P ≠ some (.ext φ)) {b : Addr} {φ : Heap → Prop} (h : H1 b = some (.ext φ)) : out H1 S Z b = some (.ext φ) := by
  have nb : b ≠ P := fun z => hP φ (by rw [← z]; exact h)
  refine (out_of ?_ ?_).trans h
  · cases hs : S b with
    | none => rfl
    | some d =>
      obtain ⟨o, h1, h2⟩ := g.c b d hs
      have := x b o h1 nb
      rw [h] at this
      cases this
      exact (cell_ext h2).elim
  · cases hs : Z b with
    | none => rfl
    | some d =>
      obtain ⟨q1, _, q3⟩ := g.z b d hs
      have := x b d q1 nb
      rw [h] at this
      cases this
      rcases q3 with ⟨vs, z⟩ | ⟨kvs, z⟩ <;> cases z
theorem good_only (g : Good K Z H S) (x : OnlyT P H H1) {c : Cell} (hS : S P = some c) (hr : Ext (out H S Z) (out H1 S Z) → ∃ o, H1 P = some o ∧ CRep K (out H1 S Z) c o) : Good K Z H1 S ∧ Ext (out H S Z) (out H1 S Z) := by
  have e : Ext (out H S Z) (out H1 S Z) := Ext.of fun b o hb => by
    obtain ⟨h1, h2, h3⟩ := out_some hb
    rw [out_of h1 h2]
    exact x b o h3 fun z => by rw [z, hS] at h1; cases h1
  refine ⟨⟨fun b o hb => ?_, fun a d hd => ?_⟩, e⟩
  · obtain ⟨h1, h2, h3⟩ := g.z b o hb
    exact ⟨x b o h1 (fun z => by rw [z, hS] at h2; cases h2), h2, h3⟩
  · by_cases ha : a = P
    · subst ha
      rw [hS] at hd
      cases hd
      exact hr e
    · obtain ⟨o, h1, h2⟩ := g.c a d hd
      exact ⟨o, x a o h1 ha, CRep.ext e _ _ h2⟩
end
/-- what a lambda promises, by the deep values of its captured cells -/
abbrev DLp := DS → Store → DK → DX → Prop
section
variable {P : Program} {w : World} {K : PySem.W.Frag} {mg : Str → Option Value} {base : Heap} {k : Nat} {f : Addr} {F : NF} {b : Expr} {N : List Str} {c : DLp}
end
section
variable {X : Cx} {K : PySem.W.Frag} {E : XK} {e : DX}
end
end Dn

namespace Dn
open PySem PySem.Spec PyProof.Rows L2 Pr
theorem repL_pair {α β : Type} {F : α → β → Prop} {l : List α} {m : List β} (h : Paired F l m) : ∀ n : Nat, Paired F (List.replicate n l).flatten (List.replicate n m).flatten
  | 0 => .nil
  | n + 1 => by
    rw [List.replicate_succ, List.replicate_succ, List.flatten_cons, List.flatten_cons]
    exact Paired.app h (repL_pair h n)
section
variable {X : Cx} {K : PySem.W.Frag}
theorem foldl_rep (c : Array Nat) : ∀ (n : Nat) (acc : Array Nat), ((List.replicate n c).foldl (· ++ ·) acc).toList = acc.toList ++ (List.replicate n c.toList).flatten
  | 0, acc => by simp
  | n + 1, acc => by
    rw [List.replicate_succ, List.foldl_cons, foldl_rep c n, List.replicate_succ, List.flatten_cons, Array.toList_append, List.append_assoc]
theorem mul_rep {z : Str} {n : Int} (h0 : 0 ≤ n) : Txt.mul z n = repS z n.toNat := by
  have ext : ∀ a b : Str, a.cps.toList = b.cps.toList → a = b := fun a b h => by
    obtain ⟨a⟩ := a
    obtain ⟨b⟩ := b
    congr 1
    exact Array.toList_inj.mp h
  apply ext
  unfold Txt.mul repS
  by_cases h1 : n < 1
  · have : n = 0 := by omega
    subst this
    rw [if_pos h1]
    rfl
  · rw [if_neg h1]
    split
    · rename_i hc
      rw [Bool.or_eq_true] at hc
      rcases hc with hc | hc
      · have : n = 1 := by simpa using hc
        subst this
        simp
      · have : z.cps.size = 0 := by
          have hc : (z.cps.size == 0) = true := hc
          simpa using hc
        have e : z.cps.toList = [] := by rw [← List.length_eq_zero_iff, Array.length_toList]; exact this
        rw [e]
        simp
    · simp [foldl_rep]
theorem repS_len (z : Str) (n : Nat) : (repS z n).length = n * z.length := by
  rw [len_cps, len_cps]
  unfold repS
  simp
theorem sok_rep {z : Str} {n : Nat} (h : SOk z) (hl : z.length * n ≤ sizeLine) : SOk (repS z n) := ⟨by rw [repS_len, Nat.mul_comm]; exact hl, by
  rw [sok_all]
  intro c hc
  unfold repS at hc
  simp only [List.mem_flatten] at hc
  obtain ⟨l, hl, hc⟩ := hc
  rw [List.eq_of_mem_replicate hl] at hc
  exact sok_all.mp h.ok c hc⟩
theorem od_mul : OpR X (binaryOp .Mult) (rD K rMul) := fun pins s σ H x y v u Q I rv ru ⟨dx, dy, S, Z, q, g, rx, ry, h, k⟩ => by
  have lists : ∀ n : Int, y = .int n → (seeL dx S fun l => (-(2 ^ 63) ≤ n ∧ n < 2 ^ 63 ∧ l.length * n.toNat ≤ sizeLine) ∧ q (.lst (List.replicate n.toNat l).flatten) S) → wpAny (model X.prog X.w) X.A (binaryOp .Mult v u) (EP X pins σ Q) X.xe s := fun n e h => by
    obtain ⟨a, xs, l, rfl, ha, ra, ⟨h1, h2, h3⟩, h⟩ := see_lst g rx h
    exact op_rep pins s σ H _ _ v u Q I rv ru ⟨a, n, xs, rfl, e, ha, h1, h2, by rw [← ra.len]; exact h3, fun p np => k.new g np h ⟨p, _, rfl, out_new g np, Reps.pair.mpr (repL_pair (Reps.pair.mp (Reps.ext (ext_new g np) _ _ ra)) _)⟩⟩
  cases dy with
  | int n =>
    cases dx with
    | int i => exact op_mul pins s σ H x y v u Q I rv ru ⟨i, n, rx, ry, h.1, k.here g h.2 rfl⟩
    | str z =>
      obtain ⟨⟨h1, h2, h3⟩, h⟩ := h
      obtain rfl := rx.1
      obtain rfl := (show y = _ from ry)
      obtain ⟨t, rfl⟩ := (show ∃ t, v = Value.str z t from rv)
      obtain ⟨t', rfl⟩ := (show ∃ t, u = Value.int n t from ru)
      refine SB.mul ⟨?_, fun h4 h5 => ?_, fun h4 h5 => ?_⟩ fun t2 k2 => ⟨.str (Txt.mul z n), H, I.tok _, ⟨_, rfl⟩, ?_⟩
      · have a1 : ¬ n < -(2 ^ 63 : Int) := by omega
        have a2 : ¬ n ≥ 2 ^ 63 := by omega
        rw [decide_eq_false a1, decide_eq_false a2]; rfl
      · intro hc
        have hz := rx.2.len
        rw [sizeLine_eq] at hz
        have a1 : (2 ^ 63 - 1 : Int) / n ≥ (2 ^ 63 - 1) / 2 ^ 24 := by
          apply Int.le_ediv_of_mul_le (by omega)
          have : (2 ^ 63 - 1 : Int) / 2 ^ 24 * n ≤ (2 ^ 63 - 1 : Int) / 2 ^ 24 * 2 ^ 24 := Int.mul_le_mul_of_nonneg_left (by omega) (by decide)
          exact Int.le_trans this (by decide)
        have a2 : ((2 ^ 63 - 1) / 2 ^ 24 : Int) = 549755813887 := by decide
        omega
      · unfold Builtin.Str.tooLong
        have := h3
        rw [sizeLine_eq] at this ⊢
        simp
        omega
      · rw [mul_rep h1]
        exact k.here g h ⟨rfl, sok_rep rx.2 h3⟩
    | _ => exact lists n ry h
  | _ => cases dx <;> exact h.elim
theorem od_inG (neg : Bool) {op : CmpOp} (hK : X.K = K) (o1 : OpR X (compareOp op) fun x y H Q => ∃ d ds, Dp X.K H x d ∧ Dp X.K H y (.list ds) ∧ SeqAt.shaped d = true ∧ SeqAt.shaped (.list ds) = true ∧ Q (.bl (if neg then !(ds.any fun z => PyData.eqv z d) else ds.any fun z => PyData.eqv z d)) H)
    (o2 : OpR X (compareOp op) fun x y H Q => ∃ i j, x = .str i ∧ y = .str j ∧ Q (.bl (if neg then !hasS j i else hasS j i)) H) (o3 : OpR X (compareOp op) (rIn X.K neg)) : OpR X (compareOp op) (rD K (dIn neg)) := fun pins s σ H x y v u Q I rv ru ⟨dx, dy, S, Z, q, g, rx, ry, h, k⟩ => by
  subst hK
  have lists : (seeL dy S fun l => (isDat dx = true ∧ areDat l = true ∧ (py dx).depth ≤ 64 ∧ (py (.lst l)).depth ≤ 64) ∧ q (.bl (if neg then !memD dx l else memD dx l)) S) → wpAny (model X.prog X.w) X.A (compareOp op v u) (EP X pins σ Q) X.xe s := fun h => by
    obtain ⟨a, xs, l, rfl, ha, ra, ⟨h1, h2, h3, h4⟩, h⟩ := see_lst g ry h
    have dl : Dp X.K H (.ref a) (.list (pys l)) := .lst (SqL.of ha) (Reps.dp l xs h2 ra)
    have e : ((pys l).any fun z => PyData.eqv z (py dx)) = memD dx l := by
      unfold memD
      rw [pys_map, List.any_map]
      rfl
    refine o1 pins s σ H _ _ v u Q I rv ru ⟨py dx, pys l, Rep.dp _ _ h1 rx, dl, Rep.shaped rx h3, ?_, by rw [e]; exact k.here g h rfl⟩
    show ((PyData.list (pys l)).canLay0 && decide ((PyData.list (pys l)).depth ≤ 64)) = true
    rw [decide_eq_true (show (PyData.list (pys l)).depth ≤ 64 from h4), Bool.and_true]
    exact Reps.lay l xs ra
  cases dy with
  | str z =>
    obtain ⟨t, rfl, h⟩ := h
    exact o2 pins s σ H x y v u Q I rv ru ⟨t, z, rx.1, ry.1, k.here g h rfl⟩
  | tup l =>
    obtain ⟨⟨h1, h2, h3⟩, h⟩ := h
    obtain ⟨a, xs, rfl, ha, ra⟩ := ry
    have flat1 : ∀ (d : Dt) (v : V) (G : Hp), isDat d = true → (py d).depth = 0 → Rep X.K G d v → flatV v = true ∧ ∀ (e : Dt) (w : V), isDat e = true → (py e).depth = 0 → Rep X.K G e w → eqV w v = deqv e d := fun d v G hd hp r => by
      have flat0 : ∀ (e : Dt), isDat e = true → (py e).depth = 0 → e = .non ∨ (∃ b, e = .bl b) ∨ (∃ i, e = .int i) ∨ ∃ z, e = .str z := fun e he hp => by
        cases e with
        | non => exact .inl rfl
        | bl b => exact .inr (.inl ⟨b, rfl⟩)
        | int i => exact .inr (.inr (.inl ⟨i, rfl⟩))
        | str z => exact .inr (.inr (.inr ⟨z, rfl⟩))
        | tup l => simp [py, PyData.depth] at hp
        | ptp l => simp [py, PyData.depth] at hp
        | lst l => simp [py, PyData.depth] at hp
        | _ => simp [isDat] at he
      rcases flat0 d hd hp with rfl | ⟨b, rfl⟩ | ⟨i, rfl⟩ | ⟨z, rfl⟩
      all_goals first
        | obtain rfl := (show v = _ from r)
        | obtain rfl := r.1
      all_goals refine ⟨rfl, fun e w he hq r2 => ?_⟩
      all_goals rcases flat0 e he hq with rfl | ⟨b', rfl⟩ | ⟨i', rfl⟩ | ⟨z', rfl⟩
      all_goals first
        | obtain rfl := (show w = _ from r2)
        | obtain rfl := r2.1
      all_goals rfl
    have all : ∀ (l : List Dt) (xs : List V), l.all (fun z => isDat z && decide ((py z).depth = 0)) = true → Reps X.K (out H S Z) l xs → xs.all flatV = true ∧ inV x xs = memD dx l := fun l => by
      induction l with
      | nil => intro xs _ r; rw [show xs = [] from r]; exact ⟨rfl, rfl⟩
      | cons d l ih =>
        intro xs hh r
        obtain ⟨v', r', rfl, r1, r2⟩ := r
        rw [List.all_cons, Bool.and_eq_true, Bool.and_eq_true, decide_eq_true_iff] at hh
        obtain ⟨i1, i2⟩ := ih r' hh.2 r2
        obtain ⟨f1, f2⟩ := flat1 d v' _ hh.1.1 hh.1.2 r1
        obtain ⟨f3, f4⟩ := flat1 dx x _ h1 h2 rx
        refine ⟨by rw [List.all_cons, f1, i1]; rfl, ?_⟩
        show ((v' :: r').any fun y => eqV y x) = (d :: l).any fun z => deqv z dx
        rw [List.any_cons, List.any_cons, f4 d v' hh.1.1 hh.1.2 r1]
        congr 1
    obtain ⟨a1, a2⟩ := all l xs h3 ra
    refine o3 pins s σ H _ _ v u Q I rv ru ⟨a, xs, rfl, .inr (SqT.out ha), (flat1 dx x _ h1 h2 rx).1, a1, ?_⟩
    rw [a2]
    exact k.here g h rfl
  | _ => exact lists h
theorem od_in (hK : X.K = K) (hu : X.A.units + 65 < cLine) : OpR X (compareOp .In) (rD K (dIn false)) := od_inG false hK (op_inD hu) op_in_str op_in_seq
theorem od_notin (hK : X.K = K) (hu : X.A.units + 65 < cLine) : OpR X (compareOp .NotIn) (rD K (dIn true)) := od_inG true hK (op_notInD hu) op_notin_str op_notIn_seq
end
end Dn

namespace Dn
open PySem PySem.Spec PyProof.Rows L2 Pr LamX
theorem hW_of {A : Around} {k : Nat} (hr : Room k A) : A.units + 65 < cLine := by
  have := hr.un
  omega
/-! ## a cell stands still from here on -/
/-! ## raise -/
section
variable {P : Program} {w : World} {K : PySem.W.Frag} {mg : Str → Option Value} {base : Heap} {N : List Str} {qual : Str} {scope : Scope} {f : Addr} {cd : Value} {A : Around} {outer : List Env} {s : Shared} {H : Hp} {E : XK} {e : DX} {ex : Expr} {pos : Pos} {C : Addr}
theorem dr_raise {B newId initId bmB} {x m : Str} {j : Nat} {p p2 pos2 : Pos} (F : ExcBaseFacts B newId initId bmB) (q : PySem.W.excIn K C bmB newId = true) (gC : mg x = some (.ref C)) (kC : PySem.W.keepIn K (.ref C) = true)
    (r : Raises (cxOf (L2.CX P w) P w K mg base N qual scope f cd A outer s H E) (.ref C)) (hg : Gl (cxOf (L2.CX P w) P w K mg base N qual scope f cd A outer s H E) x) (hdb : (x == ("__debug__" : Str)) = false := by decide) :
    PS (cxOf (L2.CX P w) P w K mg base N qual scope f cd A outer s H E) (.Raise (some (.Call (.Name x p) [.Constant (.str m) j p2] [] pos2)) none pos) (tDS K E e (dRaise e C)) :=
  ds_raise (W := fun cls d _ H => E cls d H) (B := "") (t := fun _ H Q => Q (.ref C) none H) rfl tkX (fun _ _ _ _ h => h) (pmk_own F q gC kC r hg hdb)
end
/-! ## dicts that change -/
section
variable {X : Cx} {K : PySem.W.Frag} {E : XK} {e : DX} {pos pos' apos cpos tpos p : Pos} {a b c ex : Expr} {da db dc : DTE}
theorem sput_id {S : Store} {a : Addr} {c : Cell} (h : S a = some c) : sput S a c = S := by
  funext b
  unfold sput
  split
  · rename_i e; rw [e, h]
  · rfl
/-! ## in place -/
@[reducible] def rIAdd : D2 := fun x y S q => match x, y with
  | .int i, .int j => q (.int (i + j)) S
  | .str a, .str b => a.length + b.length ≤ sizeLine ∧ q (.str (a ++ b)) S
  | _, _ => False
theorem ip_addD : OpR X (inplaceOp .Add) (rD K rIAdd) := fun pins s σ H x y v u Q I rv ru ⟨dx, dy, S, Z, q, g, rx, ry, h, k⟩ => by
  cases dx with
  | int i =>
    cases dy with
    | int j => exact iop_add pins s σ H x y v u Q I rv ru ⟨i, j, rx, ry, k.here g h rfl⟩
    | _ => exact h.elim
  | str a =>
    cases dy with
    | str b => exact iop_add_str pins s σ H x y v u Q I rv ru ⟨a, b, rx.1, ry.1, h.1, k.here g h.2 ⟨rfl, rx.2.app ry.2 h.1⟩⟩
    | _ => exact h.elim
  | _ => cases dy <;> exact h.elim
theorem in_addD : InOp X .Add (rD K rIAdd) := fun pins s σ H x y v u Q I rv ru h => ip_addD pins s σ H x y v u Q I rv ru h
theorem ip_subD : OpR X (inplaceOp .Sub) (rD K rSub) := fun pins s σ H x y v u Q I rv ru ⟨dx, dy, S, Z, q, g, rx, ry, h, k⟩ => by
  cases dx with
  | int i =>
    cases dy with
    | int j => exact ip_sub pins s σ H x y v u Q I rv ru ⟨i, j, rx, ry, k.here g h rfl⟩
    | _ => exact h.elim
  | _ => cases dy <;> exact h.elim
end
/-! ## list(d.items()) -/
section
variable {X : Cx} {K : PySem.W.Frag} {E : XK} {e : DX} {p pos apos cpos : Pos} {a : Expr} {da : DTE}
end
end Dn

/-! tools over stores and deep values -/
namespace Dn
open PySem PySem.Spec PyProof.Rows L2 Pr
/-! ## stores -/
/-- all cells but M are as they were -/
def Kps (M : List Addr) (S S' : Store) : Prop := ∀ b c, S b = some c → b ∉ M → S' b = some c
section
variable {M M' : List Addr} {S S1 S2 : Store} {p : Addr} {c d : Cell}
theorem ne_cell {a b : Addr} (h : S a = some c) (h' : S b = some d) (n : c ≠ d) : a ≠ b := fun e => by rw [e, h'] at h; exact n (Option.some.inj h).symm
theorem ne_free {a b : Addr} (h : S a = some c) (h' : S b = none) : a ≠ b := fun e => by rw [e, h'] at h; cases h
theorem Kps.refl : Kps M S S := fun _ _ h _ => h
theorem Kps.trans (a : Kps M S S1) (b : Kps M S1 S2) : Kps M S S2 := fun e u h n => b e u (a e u h n) n
theorem Kps.mono (a : Kps M S S1) (h : ∀ b, b ∈ M → b ∈ M' ∨ S b = none) : Kps M' S S1 := fun e u q n => a e u q fun m => by
  rcases h e m with z | z
  · exact n z
  · rw [z] at q; cases q
theorem Kps.sub (a : Kps M S S1) (h : ∀ b, b ∈ M → b ∈ M') : Kps M' S S1 := a.mono fun b hb => .inl (h b hb)
theorem Kps.new (a : Kps M S S1) (n : S1 p = none) : Kps M S (sput S1 p c) := fun e u h m => by
  have z := a e u h m
  rw [sput_ne (ne_free z n)]
  exact z
theorem Kps.own (a : Kps M S S1) (n : S p = none) : Kps M S (sput S1 p c) := fun e u h m => by
  rw [sput_ne (ne_free h n)]
  exact a e u h m
theorem Kps.mut (a : Kps M S S1) (m : p ∈ M) : Kps M S (sput S1 p c) := fun e u h n => by
  rw [sput_ne fun z => n (by rw [z]; exact m)]
  exact a e u h n
/-- what is in M is of another kind -/
theorem Kps.get (a : Kps M S S1) (h : S p = some c) (n : ∀ b ∈ M, S b ≠ some c) : S1 p = some c := a p c h fun m => n p m h
theorem Kps.free (a : Kps [] S S1) (n : S1 p = none) : S p = none := by
  cases e : S p with
  | none => rfl
  | some u => rw [a p u e (by simp)] at n; cases n
/-- no new tables of codes -/
def NoT (S S' : Store) : Prop := ∀ a q, S' a = some (.tbl q) → S a = some (.tbl q)
theorem NoT.put (h : NoT S S1) (nt : ∀ q, c ≠ .tbl q) : NoT S (sput S1 p c) := fun a q e => by
  by_cases ha : a = p
  · rw [ha, sput_same] at e
    exact absurd (Option.some.inj e) (nt q)
  · rw [sput_ne ha] at e
    exact h a q e
/-- a frame -/
structure Frm (M : List Addr) (S S' : Store) : Prop where
  k : Kps M S S'
  t : NoT S S'
theorem Frm.refl : Frm M S S := ⟨Kps.refl, fun _ _ h => h⟩
theorem Frm.trans (a : Frm M S S1) (b : Frm M S1 S2) : Frm M S S2 := ⟨a.k.trans b.k, fun x q h => a.t x q (b.t x q h)⟩
theorem Frm.mono (a : Frm M S S1) (h : ∀ b, b ∈ M → b ∈ M' ∨ S b = none) : Frm M' S S1 := ⟨a.k.mono h, a.t⟩
theorem Frm.new (a : Frm M S S1) (n : S1 p = none) (nt : ∀ q, c ≠ .tbl q := by intro q z; cases z) : Frm M S (sput S1 p c) := ⟨a.k.new n, a.t.put nt⟩
theorem Frm.own (a : Frm M S S1) (n : S p = none) (nt : ∀ q, c ≠ .tbl q := by intro q z; cases z) : Frm M S (sput S1 p c) := ⟨a.k.own n, a.t.put nt⟩
theorem Frm.mut (a : Frm M S S1) (m : p ∈ M) (nt : ∀ q, c ≠ .tbl q := by intro q z; cases z) : Frm M S (sput S1 p c) := ⟨a.k.mut m, a.t.put nt⟩
theorem sput_free {a b : Addr} (h : sput S a c b = none) : b ≠ a ∧ S b = none := by
  have n : b ≠ a := fun e => by rw [e, sput_same] at h; cases h
  exact ⟨n, by rw [sput_ne n] at h; exact h⟩
end
/-! ## dicts with texts as keys -/
section
variable {α : Type} {g : α → Dt}
def encD (g : α → Dt) (L : List (Str × α)) : List (Key × Dt) := L.map fun e => (Sum.inr e.1, g e.2)
theorem encD_len (L : List (Str × α)) : (encD g L).length = L.length := List.length_map ..
theorem encD_get (k : Str) : ∀ L : List (Str × α), kGet (encD g L) (Sum.inr k) = (aGet L k).map g
  | [] => rfl
  | e :: r => by
    have ih := encD_get k r
    unfold kGet aGet encD at *
    rw [List.map_cons, List.find?_cons, List.find?_cons, key_inr]
    by_cases h : e.1 = k
    · rw [decide_eq_true h]; rfl
    · rw [decide_eq_false h]; exact ih
theorem encD_keys (L : List (Str × α)) : (encD g L).map (·.1) = (L.map (·.1)).map Sum.inr := by
  unfold encD
  rw [List.map_map, List.map_map]
  rfl
/-- dict([(k, v), ..]) of keys that differ -/
theorem merge_nodup {κ : Type} [DecidableEq κ] : ∀ (m l : List (κ × Dt)), (m.map (·.1)).Nodup → (∀ p ∈ m, ∀ q ∈ l, p.1 ≠ q.1) → kMerge l m = l ++ m
  | [], l, _, _ => by simp [kMerge]
  | p :: m, l, nd, dis => by
    have nd' := List.nodup_cons.mp nd
    have e : kPut l p.1 p.2 = l ++ [p] := by
      unfold kPut
      rw [if_neg (fun h => by
        obtain ⟨q, hq, e⟩ := List.any_eq_true.mp h
        exact dis p List.mem_cons_self q hq (of_decide_eq_true e).symm)]
    show kMerge (kPut l p.1 p.2) m = _
    rw [e, merge_nodup m (l ++ [p]) nd'.2 (fun a ha q hq => by
      rcases List.mem_append.mp hq with hq | hq
      · exact dis a (List.mem_cons_of_mem _ ha) q hq
      · rw [List.mem_singleton.mp hq]
        exact fun z => nd'.1 (List.mem_map.mpr ⟨a, ha, z⟩)), List.append_assoc]
    rfl
theorem encD_merge {L : List (Str × α)} (nd : (L.map (·.1)).Nodup) : kMerge [] (encD g L) = encD g L := by
  rw [merge_nodup _ _ ?_ (fun _ _ q hq => by cases hq)]
  · rfl
  · rw [encD_keys]
    exact List.pairwise_map.mpr (nd.imp fun h e => h (Sum.inr.inj e))
end
/-! ## comparing typed things -/
class Enc (α : Type) [DecidableEq α] where
  enc : α → Dt
  dat : ∀ a, isDat (enc a) = true
  eqv : ∀ a b, deqv (enc a) (enc b) = decide (a = b)
  dep : Nat
  dep_le : ∀ a, (py (enc a)).depth ≤ dep
/-- never None -/
class EncN (α : Type) [DecidableEq α] extends Enc α where
  nn : ∀ a, deqv .non (enc a) = false ∧ deqv (enc a) .non = false
theorem beq_dec {α : Type} [DecidableEq α] [BEq α] [LawfulBEq α] (a b : α) : (a == b) = decide (a = b) := by
  rw [Bool.eq_iff_iff, beq_iff_eq, decide_eq_true_eq]
instance : EncN Int := { enc := .int, dat := fun _ => rfl, eqv := fun a b => beq_dec a b, dep := 0, dep_le := fun _ => Nat.le_refl _, nn := fun _ => ⟨rfl, rfl⟩ }
instance : EncN Bool := { enc := .bl, dat := fun _ => rfl, eqv := fun a b => beq_dec a b, dep := 0, dep_le := fun _ => Nat.le_refl _, nn := fun _ => ⟨rfl, rfl⟩ }
instance : EncN Str := { enc := .str, dat := fun _ => rfl, eqv := fun a b => beq_dec a b, dep := 0, dep_le := fun _ => Nat.le_refl _, nn := fun _ => ⟨rfl, rfl⟩ }
section
variable {α β γ : Type} [DecidableEq α] [DecidableEq β] [DecidableEq γ]
@[reducible] def encO [Enc α] : Option α → Dt
  | none => .non
  | some a => Enc.enc a
theorem encO_dat [Enc α] (a : Option α) : isDat (encO a) = true := by
  cases a
  · exact rfl
  · exact Enc.dat _
theorem encO_eqv [EncN α] (a b : Option α) : deqv (encO a) (encO b) = decide (a = b) := by
  cases a with
  | none =>
    cases b with
    | none => rfl
    | some b => exact (EncN.nn b).1
  | some a =>
    cases b with
    | none => exact (EncN.nn a).2
    | some b =>
      rw [show deqv (encO (some a)) (encO (some b)) = _ from Enc.eqv a b]
      simp
theorem encO_dep [Enc α] (a : Option α) : (py (encO a)).depth ≤ Enc.dep α := by
  cases a
  · exact Nat.zero_le _
  · exact Enc.dep_le _
instance [EncN α] : Enc (Option α) := { enc := encO, dat := encO_dat, eqv := encO_eqv, dep := Enc.dep α, dep_le := encO_dep }
def encP [Enc α] [Enc β] (p : α × β) : Dt := .tup [Enc.enc p.1, Enc.enc p.2]
theorem encP_dat [Enc α] [Enc β] (p : α × β) : isDat (encP p) = true := by
  show (isDat (Enc.enc p.1) && (isDat (Enc.enc p.2) && true)) = true
  rw [Enc.dat, Enc.dat]
  rfl
theorem encP_eqv [Enc α] [Enc β] (a b : α × β) : deqv (encP a) (encP b) = decide (a = b) := by
  show (deqv (Enc.enc a.1) (Enc.enc b.1) && (deqv (Enc.enc a.2) (Enc.enc b.2) && true)) = _
  rw [Enc.eqv, Enc.eqv, Bool.and_true, Bool.eq_iff_iff]
  simp [Prod.ext_iff]
theorem encP_dep [Enc α] [Enc β] (p : α × β) : (py (encP p)).depth ≤ max (Enc.dep α) (Enc.dep β) + 1 := by
  show max (py (Enc.enc p.1)).depth (max (py (Enc.enc p.2)).depth 0) + 1 ≤ _
  have h1 := Enc.dep_le p.1
  have h2 := Enc.dep_le p.2
  omega
instance [Enc α] [Enc β] : EncN (α × β) := { enc := encP, dat := encP_dat, eqv := encP_eqv, dep := max (Enc.dep α) (Enc.dep β) + 1, dep_le := encP_dep, nn := fun _ => ⟨rfl, rfl⟩ }
theorem pys_dep {l : List Dt} {n : Nat} (h : ∀ d ∈ l, (py d).depth ≤ n) : PyData.depthAll (pys l) ≤ n := by
  induction l with
  | nil => exact Nat.zero_le _
  | cons d l ih =>
    show max (py d).depth (PyData.depthAll (pys l)) ≤ n
    exact Nat.max_le.mpr ⟨h d List.mem_cons_self, ih fun x hx => h x (List.mem_cons_of_mem _ hx)⟩
theorem areDat_of {l : List Dt} (h : ∀ d ∈ l, isDat d = true) : areDat l = true := by rw [areDat_all]; exact List.all_eq_true.mpr h
theorem eqvAll_map {f : α → Dt} (h : ∀ a b, deqv (f a) (f b) = decide (a = b)) : ∀ l m : List α, PyData.eqvAll (pys (l.map f)) (pys (m.map f)) = decide (l = m)
  | [], [] => rfl
  | [], _ :: _ => rfl
  | _ :: _, [] => rfl
  | a :: l, b :: m => by
    show (deqv (f a) (f b) && PyData.eqvAll (pys (l.map f)) (pys (m.map f))) = _
    rw [h, eqvAll_map h l m, Bool.eq_iff_iff]
    simp
end
/-- things of one kind, by a function that tells them apart -/
structure Tells {α : Type} [DecidableEq α] (f : α → Dt) (n : Nat) : Prop where
  dat : ∀ a, isDat (f a) = true
  eqv : ∀ a b, deqv (f a) (f b) = decide (a = b)
  dep : ∀ a, (py (f a)).depth ≤ n
section
variable {α : Type} [DecidableEq α] {f : α → Dt} {n : Nat} {S : Store} {q : DK}
theorem tells_enc [Enc α] : Tells (Enc.enc (α := α)) (Enc.dep α) := ⟨Enc.dat, Enc.eqv, Enc.dep_le⟩
theorem Tells.lst (t : Tells f n) : Tells (fun l : List α => Dt.lst (l.map f)) (n + 1) := ⟨fun l => areDat_of fun d hd => by
  obtain ⟨a, _, rfl⟩ := List.mem_map.mp hd
  exact t.dat a, fun l m => eqvAll_map t.eqv l m, fun l => Nat.succ_le_succ (pys_dep fun d hd => by
  obtain ⟨a, _, rfl⟩ := List.mem_map.mp hd
  exact t.dep a)⟩
theorem Tells.tup (t : Tells f n) : Tells (fun l : List α => Dt.tup (l.map f)) (n + 1) := ⟨fun l => areDat_of fun d hd => by
  obtain ⟨a, _, rfl⟩ := List.mem_map.mp hd
  exact t.dat a, fun l m => eqvAll_map t.eqv l m, fun l => Nat.succ_le_succ (pys_dep fun d hd => by
  obtain ⟨a, _, rfl⟩ := List.mem_map.mp hd
  exact t.dep a)⟩
theorem Tells.eq (t : Tells f n) (hn : n ≤ 64) {a b : α} (h : q (.bl (decide (a = b))) S) : dEq (f a) (f b) S q := ⟨⟨t.dat a, t.dat b, Nat.le_trans (t.dep a) hn, Nat.le_trans (t.dep b) hn⟩, by rw [t.eqv]; exact h⟩
theorem Tells.ne (t : Tells f n) (hn : n ≤ 64) {a b : α} (h : q (.bl (!decide (a = b))) S) : dNe (f a) (f b) S q := ⟨⟨t.dat a, t.dat b, Nat.le_trans (t.dep a) hn, Nat.le_trans (t.dep b) hn⟩, by rw [t.eqv]; exact h⟩
theorem Tells.mem (t : Tells f n) (a : α) (l : List α) : memD (f a) (l.map f) = decide (a ∈ l) := by
  unfold memD
  rw [List.any_map, Bool.eq_iff_iff, List.any_eq_true, decide_eq_true_iff]
  constructor
  · rintro ⟨x, hx, h⟩
    have h : deqv (f x) (f a) = true := h
    rw [t.eqv] at h
    rw [← of_decide_eq_true h]
    exact hx
  · exact fun h => ⟨a, h, by show deqv (f a) (f a) = true; rw [t.eqv]; simp⟩
end
section
variable {S : Store} {q : DK}
theorem eq_int {a b : Int} (h : q (.bl (decide (a = b))) S) : dEq (.int a) (.int b) S q := (tells_enc (α := Int)).eq (Nat.zero_le _) h
theorem eq_str {a b : Str} (h : q (.bl (decide (a = b))) S) : dEq (.str a) (.str b) S q := (tells_enc (α := Str)).eq (Nat.zero_le _) h
theorem eq_bl {a b : Bool} (h : q (.bl (decide (a = b))) S) : dEq (.bl a) (.bl b) S q := (tells_enc (α := Bool)).eq (Nat.zero_le _) h
theorem ne_int {a b : Int} (h : q (.bl (!decide (a = b))) S) : dNe (.int a) (.int b) S q := (tells_enc (α := Int)).ne (Nat.zero_le _) h
theorem ne_str {a b : Str} (h : q (.bl (!decide (a = b))) S) : dNe (.str a) (.str b) S q := (tells_enc (α := Str)).ne (Nat.zero_le _) h
theorem ne_bl {a b : Bool} (h : q (.bl (!decide (a = b))) S) : dNe (.bl a) (.bl b) S q := (tells_enc (α := Bool)).ne (Nat.zero_le _) h
end
end Dn

namespace Dn
open PySem PySem.Spec PyProof.Rows L2 Pr
section
variable {X : Cx} {K : PySem.W.Frag} {E : XK} {e : DX} {st : Stmt}
theorem ds_never : PS X st (tDS K E e (fun _ _ _ => False)) := PS.imp ps_never fun D σ H h => by
  obtain ⟨D', S, Z, δ, t, h, k⟩ := h
  exact h.elim
end
theorem szD {n : Nat} (h : n ≤ 10000) : n < sizeLine := Nat.lt_of_le_of_lt h (Nat.le_of_ble_eq_true rfl)
/-! tests that are comparisons -/
@[reducible] def dTst (a : DTE) : DTT := fun δ S q => a δ S fun x S1 => ∃ k, x = .bl k ∧ q k S1
section
variable {X : Cx} {K : PySem.W.Frag} {E : XK} {e : DX} {pos : Pos} {a b c : Expr} {da db dc : DTE}
theorem tD_tst {σ : L2.St} {H : Hp} {Q : Bool → Hp → Prop} (h : tDT K E e (dTst da) σ H Q) : tTest (tD K E e da) σ H Q := by
  obtain ⟨δ, S, Z, q, t, h, k⟩ := h
  refine ⟨δ, S, Z, _, t, h, fun v x H1 S1 g1 x1 r1 h1 => ?_⟩
  obtain ⟨b, rfl, h1⟩ := h1
  exact ⟨b, r1, k b H1 S1 g1 x1 h1⟩
theorem dt_cmp {op : CmpOp} {dr : D2} (ho : OpR X (compareOp op) (rD K dr)) (ha : PE X a (tD K E e da)) (hb : PE X b (tD K E e db)) (hm : behindInMarks op b = false := by rfl) : PT X (.Compare a [op] [b] pos) (tDT K E e (dTst (dOp dr da db))) :=
  PT.imp (pt_cmpR ho ha hb hm) fun σ H Q h => by
    exact tT_op (tD_tst h)
where
  tT_op {dr : D2} {σ : L2.St} {H : Hp} {Q : Bool → Hp → Prop} (h : tTest (tD K E e (dOp dr da db)) σ H Q) : tTest (tOp (rD K dr) (tD K E e da) (tD K E e db)) σ H Q := tD_op h
theorem dt_din (hu : X.A.units + 1 < cLine) (hb : PE X b (tD K E e db)) (ha : PE X a (tD K E e da)) (hm : behindInMarks .In a = false := by rfl) : PT X (.Compare b [.In] [a] pos) (tDT K E e (dTst (dDin db da))) := PT.imp (pt_cmp (pc_din hu hb ha) hm) fun σ H Q h => by
  obtain ⟨δ, S, Z, q, t, h, k⟩ := (tD_tst h : tD K E e (dDin db da) σ H _)
  refine ⟨δ, S, Z, _, t, h, fun v x H1 S1 g1 x1 r1 h1 => ⟨δ, S1, Z, _, t.to g1 x1, h1, fun w y H2 S2 g2 x2 r2 h2 => ?_⟩⟩
  obtain ⟨a, o, rfl, h3, h4⟩ := getD_of g2 r2 (Rep.ext x2 _ _ r1) h2
  rcases h4 with ⟨rfl, h4⟩ | ⟨x', u, rfl, h6, h7⟩
  · exact ⟨a, _, rfl, h4, (k.ext (x1.trans x2)).here g2 h3 rfl⟩
  · exact ⟨a, _, rfl, h6, (k.ext (x1.trans x2)).here g2 h3 rfl⟩
theorem dt_dnotin (hu : X.A.units + 1 < cLine) (hb : PE X b (tD K E e db)) (ha : PE X a (tD K E e da)) (hm : behindInMarks .NotIn a = false := by rfl) : PT X (.Compare b [.NotIn] [a] pos) (tDT K E e (dTst (dDnotin db da))) := PT.imp (pt_cmp (pc_dnotin hu hb ha) hm) fun σ H Q h => by
  obtain ⟨δ, S, Z, q, t, h, k⟩ := (tD_tst h : tD K E e (dDnotin db da) σ H _)
  refine ⟨δ, S, Z, _, t, h, fun v x H1 S1 g1 x1 r1 h1 => ⟨δ, S1, Z, _, t.to g1 x1, h1, fun w y H2 S2 g2 x2 r2 h2 => ?_⟩⟩
  obtain ⟨a, o, rfl, h3, h4⟩ := getD_of g2 r2 (Rep.ext x2 _ _ r1) h2
  rcases h4 with ⟨rfl, h4⟩ | ⟨x', u, rfl, h6, h7⟩
  · exact ⟨a, _, rfl, h4, (k.ext (x1.trans x2)).here g2 h3 rfl⟩
  · exact ⟨a, _, rfl, h6, (k.ext (x1.trans x2)).here g2 h3 rfl⟩
theorem dt_chain {op op' : CmpOp} {r r' : D2} (ho : OpR X (compareOp op) (rD K r)) (ho' : OpR X (compareOp op') (rD K r')) (ha : PE X a (tD K E e da)) (hb : PE X b (tD K E e db)) (hc : PE X c (tD K E e dc)) (hm : lastMarks [op, op'] [b, c] = false := by rfl) :
    PT X (.Compare a [op, op'] [b, c] pos) (tDT K E e (dTst (dChain r r' da db dc))) := PT.imp (pt_chain ho ho' ha hb hc hm) fun σ H Q h => by
  exact tD_chain (tD_tst h)
where
  tD_chain {r r' : D2} {σ : L2.St} {H : Hp} {Q : VK} (h : tD K E e (dChain r r' da db dc) σ H Q) : tChain (rD K r) (rD K r') (tD K E e da) (tD K E e db) (tD K E e dc) σ H Q := by
    obtain ⟨δ, S, Z, q, t, h, k⟩ := h
    refine ⟨δ, S, Z, _, t, h, fun v x H1 S1 g1 x1 r1 h1 => ⟨δ, S1, Z, _, t.to g1 x1, h1, fun w y H2 S2 g2 x2 r2 h2 => ⟨x, y, S2, Z, _, g2, Rep.ext x2 _ _ r1, r2, h2, fun u z H3 S3 g3 x3 r3 h3 => ?_⟩⟩⟩
    obtain ⟨c, rfl, h4⟩ := h3
    refine ⟨c, r3, ?_⟩
    have x13 := x1.trans (x2.trans x3)
    cases c with
    | true => exact iteT ⟨δ, S3, Z, _, t.to g3 x13, h4, fun w' y' H4 S4 g4 x4 r4 h5 => ⟨y, y', S4, Z, q, g4, Rep.ext (x3.trans x4) _ _ r2, r4, h5, k.ext (x13.trans x4)⟩⟩
    | false => exact iteF (k _ (.bl false) H3 S3 g3 x13 rfl h4)
end
theorem ift_nt {A B : Prop} (h : B) : Ift (!true) A B := h
theorem ift_nf {A B : Prop} (h : A) : Ift (!false) A B := h
/-! names with addresses -/
section
variable {β : Type} {L : List (Str × (Addr × β))} {k : Str} {p b : Addr} {l : β}
end
section
variable {α : Type} {g : α → Dt} {L : List (Str × α)}
end
/-- a text or None -/
@[reducible] def oS : Option Str → Dt
  | none => .non
  | some z => .str z
/-! in -/
section
variable {S : Store} {q : DK} {α : Type} {f : α → Str} {L : List α} {a : Addr} {k : Str}
end
/-! runs over a list, item by item -/
section
variable {keep : Store → Prop} {g : DTG} {b : DTS} {D : DEnds} {tt : DTT} {te : DTE} {q : List Dt → Store → Prop} {δ : DS} {l : List Dt} {S : Store} {it : DTL} {w : List Nat}
@[reducible] def forGo (keep : Store → Prop) (g : DTG) (b : DTS) (D : DEnds) : List Dt → DS → Store → Prop
  | [], δ, S => keep S ∧ D.nx δ S
  | d :: r, δ, S => keep S ∧ g d δ S fun δ' S' => b { D with nx := forGo keep g b D r, ct := forGo keep g b D r, bk := D.nx } δ' S'
theorem forGo_keep : ∀ {l : List Dt} {δ : DS} {S : Store}, forGo keep g b D l δ S → keep S
  | [], _, _, h => h.1
  | _ :: _, _, _, h => h.1
theorem for_go (h : forGo keep g b D l δ S) : ∃ I : Nat → DS → Store → Prop, I 0 δ S ∧ (∀ i δ S, i ≤ l.length → I i δ S → keep S) ∧
    (∀ i d δ S, l[i]? = some d → I i δ S → g d δ S fun δ' S' => b { D with nx := I (i + 1), ct := I (i + 1), bk := D.nx } δ' S') ∧ ∀ δ S, I l.length δ S → D.nx δ S := by
  refine ⟨fun i => forGo keep g b D (l.drop i), h, fun i δ S _ h => forGo_keep h, fun i d δ S e h => ?_, fun δ S h => ?_⟩
  · have e2 : l.drop i = d :: l.drop (i + 1) := by
      obtain ⟨hi, e⟩ := List.getElem?_eq_some_iff.mp e
      rw [List.drop_eq_getElem_cons hi, e]
    have h : forGo keep g b D (l.drop i) δ S := h
    rw [e2] at h
    exact h.2
  · have h : forGo keep g b D (l.drop l.length) δ S := h
    rw [List.drop_length] at h
    exact h.2
@[reducible] def lcGo (keep : Store → Prop) (g : DTG) (tt : DTT) (te : DTE) (q : List Dt → Store → Prop) (δ : DS) : List Dt → List Dt → Store → Prop
  | [], acc, S => keep S ∧ q acc S
  | d :: r, acc, S => keep S ∧ g d δ S fun δ' S' => tt δ' S' fun b S2 => Ift b (te δ' S2 fun y S3 => lcGo keep g tt te q δ r (acc ++ [y]) S3) (lcGo keep g tt te q δ r acc S2)
theorem lcGo_keep : ∀ {l acc : List Dt} {S : Store}, lcGo keep g tt te q δ l acc S → keep S
  | [], _, _, h => h.1
  | _ :: _, _, _, h => h.1
theorem lc_go (h : lcGo keep g tt te q δ l [] S) : ∃ I : Nat → List Dt → Store → Prop, I 0 [] S ∧ (∀ i acc S, i ≤ l.length → I i acc S → keep S) ∧
    (∀ i d acc S, l[i]? = some d → I i acc S → g d δ S fun δ' S' => tt δ' S' fun b S2 => Ift b (te δ' S2 fun y S3 => I (i + 1) (acc ++ [y]) S3) (I (i + 1) acc S2)) ∧ ∀ acc S, I l.length acc S → q acc S := by
  refine ⟨fun i => lcGo keep g tt te q δ (l.drop i), h, fun i acc S _ h => lcGo_keep h, fun i d acc S e h => ?_, fun acc S h => ?_⟩
  · have e2 : l.drop i = d :: l.drop (i + 1) := by
      obtain ⟨hi, e⟩ := List.getElem?_eq_some_iff.mp e
      rw [List.drop_eq_getElem_cons hi, e]
    have h : lcGo keep g tt te q δ (l.drop i) acc S := h
    rw [e2] at h
    exact h.2
  · have h : lcGo keep g tt te q δ (l.drop l.length) acc S := h
    rw [List.drop_length] at h
    exact h.2
/-- what changes nothing -/
theorem lcGo_pure {α : Type} (enc : α → Dt) (f : α → Option Dt) (hk : keep S) : ∀ (L : List α) (acc : List Dt), (∀ x ∈ L, ∀ (kY : Dt → Store → Prop) (kN : Store → Prop), (∀ y, f x = some y → kY y S) → (f x = none → kN S) → g (enc x) δ S fun δ' S' => tt δ' S' fun b S2 => Ift b (te δ' S2 kY) (kN S2)) →
    q (acc ++ L.filterMap f) S → lcGo keep g tt te q δ (L.map enc) acc S
  | [], acc, _, h => ⟨hk, by simpa using h⟩
  | x :: r, acc, st, h => ⟨hk, st x List.mem_cons_self _ _
      (fun y e => lcGo_pure enc f hk r (acc ++ [y]) (fun x' hx' => st x' (List.mem_cons_of_mem _ hx')) (by rw [List.filterMap_cons_some e] at h; rw [List.append_assoc]; exact h))
      (fun e => lcGo_pure enc f hk r acc (fun x' hx' => st x' (List.mem_cons_of_mem _ hx')) (by rw [List.filterMap_cons_none e] at h; exact h))⟩
end
/-! the dice of every law -/
def cRoll : DSp := fun ds S q _ => ∃ (d : Addr) (x n k m : Int), ds = [.ref d, .int m] ∧ S d = some (.lst [.int x, .int n, .int k]) ∧ (0 < m ∧ m ≤ 100000000) ∧
  ∀ r x' n' k' : Int, 0 ≤ r → r < m → q (.int r) (sput S d (.lst [.int x', .int n', .int k']))
def cDice : DSp := fun ds S q _ => ∃ c : Int, ds = [.int c] ∧ ∀ (p : Addr) (x n k : Int), S p = none → q (.ref p) (sput S p (.lst [.int x, .int n, .int k]))
def cRounds : DSp := fun ds S q _ => ∃ ns : List Int, ds = [.scr ns, .int 1] ∧ ns.length ≤ 10000 ∧ ∀ (p : Addr) (x n k : Int), S p = none → q (.lst [.ref p]) (sput S p (.lst [.int x, .int n, .int k]))
end Dn

/-! lists that are cells compared; sum(len(k) + len(v) for k, v in d.items()) -/
namespace Dn
open PySem PySem.Spec PyProof.Rows L2 Pr LamX
/-- a cell that is a list, as a list -/
@[reducible] def seeV (x : Dt) (S : Store) (k : Dt → Prop) : Prop := match x with
  | .ref a => ∃ l, S a = some (.lst l) ∧ k (.lst l)
  | x => k x
@[reducible] def dEqV : D2 := fun x y S q => seeV x S fun x' => seeV y S fun y' => dEq x' y' S q
@[reducible] def dNeV : D2 := fun x y S q => seeV x S fun x' => seeV y S fun y' => dNe x' y' S q
section
variable {X : Cx} {K : PySem.W.Frag} {Z H : Hp} {S : Store}
theorem seeV_of {d : Dt} {v : V} (g : Good K Z H S) (r : Rep K (out H S Z) d v) {k : Dt → Prop} (h : seeV d S k) : ∃ d', k d' ∧ (isDat d' = true → Dp K H v (py d') ∧ ((py d').depth ≤ 64 → SeqAt.shaped (py d') = true)) := by
  cases d with
  | ref a =>
    obtain ⟨l, h1, h2⟩ := h
    obtain ⟨o, h3, vs, rfl, h4⟩ := g.c a _ h1
    refine ⟨_, h2, fun hd => ⟨?_, fun hl => ?_⟩⟩
    · rw [show v = _ from r]
      exact .lst (SqL.of h3) (Reps.dp _ _ hd h4)
    · show ((py (.lst l)).canLay0 && decide ((py (.lst l)).depth ≤ 64)) = true
      rw [show (py (.lst l)).canLay0 = true from Reps.lay _ _ h4, decide_eq_true hl]
      rfl
  | _ => exact ⟨_, h, fun hd => ⟨Rep.dp _ _ hd r, fun hl => Rep.shaped r hl⟩⟩
theorem od_eqV (hK : X.K = K) (hu : X.A.units + 64 < cLine) : OpR X (compareOp .Eq) (rD K dEqV) := fun pins s σ H x y v u Q I rv ru ⟨dx, dy, S, Z, q, g, rx, ry, h, k⟩ => by
  subst hK
  obtain ⟨x', h, fx⟩ := seeV_of g rx h
  obtain ⟨y', ⟨⟨h1, h2, h3, h4⟩, h⟩, fy⟩ := seeV_of g ry h
  exact op_eqD hu pins s σ H x y v u Q I rv ru ⟨py x', py y', (fx h1).1, (fy h2).1, (fx h1).2 h3, (fy h2).2 h4, k.here g h rfl⟩
theorem od_neV (hK : X.K = K) (hu : X.A.units + 64 < cLine) : OpR X (compareOp .NotEq) (rD K dNeV) := fun pins s σ H x y v u Q I rv ru ⟨dx, dy, S, Z, q, g, rx, ry, h, k⟩ => by
  subst hK
  obtain ⟨x', h, fx⟩ := seeV_of g rx h
  obtain ⟨y', ⟨⟨h1, h2, h3, h4⟩, h⟩, fy⟩ := seeV_of g ry h
  exact op_neD hu pins s σ H x y v u Q I rv ru ⟨py x', py y', (fx h1).1, (fy h2).1, (fx h1).2 h3, (fy h2).2 h4, k.here g h rfl⟩
end
theorem Tells.neS {α : Type} [DecidableEq α] {f : α → Dt} {n : Nat} {S : Store} {q : DK} (t : Tells f n) (hn : n ≤ 64) {a : α} (h : q (.bl false) S) : dNe (f a) (f a) S q := t.ne hn (by rw [decide_eq_true rfl]; exact h)
theorem Tells.eqS {α : Type} [DecidableEq α] {f : α → Dt} {n : Nat} {S : Store} {q : DK} (t : Tells f n) (hn : n ≤ 64) {a : α} (h : q (.bl true) S) : dEq (f a) (f a) S q := t.eq hn (by rw [decide_eq_true rfl]; exact h)
section
variable {S : Store} {q : DK} {z : Str} {b : Bool} {i : Int}
theorem eq_strS (h : q (.bl true) S) : dEq (.str z) (.str z) S q := (tells_enc (α := Str)).eqS (Nat.zero_le _) h
theorem ne_strS (h : q (.bl false) S) : dNe (.str z) (.str z) S q := (tells_enc (α := Str)).neS (Nat.zero_le _) h
theorem eq_blS (h : q (.bl true) S) : dEq (.bl b) (.bl b) S q := (tells_enc (α := Bool)).eqS (Nat.zero_le _) h
theorem ne_blS (h : q (.bl false) S) : dNe (.bl b) (.bl b) S q := (tells_enc (α := Bool)).neS (Nat.zero_le _) h
theorem eq_nonS (h : q (.bl false) S) : dEq .non (.str z) S q := ⟨⟨rfl, rfl, Nat.zero_le _, Nat.zero_le _⟩, h⟩
theorem ne_nonS (h : q (.bl true) S) : dNe .non (.str z) S q := ⟨⟨rfl, rfl, Nat.zero_le _, Nat.zero_le _⟩, h⟩
theorem eq_blStr (h : q (.bl false) S) : dEq (.bl b) (.str z) S q := ⟨⟨rfl, rfl, Nat.zero_le _, Nat.zero_le _⟩, h⟩
theorem ne_blStr (h : q (.bl true) S) : dNe (.bl b) (.str z) S q := ⟨⟨rfl, rfl, Nat.zero_le _, Nat.zero_le _⟩, h⟩
end
/-! ## a def with a table of codes -/
theorem dfnC {P : Program} {w : World} {K : PySem.W.Frag} {mg : Str → Option Value} {base : Heap} {x qual : Str} {params : Arguments} {body : List Stmt} {scope : Scope} {dvs : List V} {f Pt : Addr} {fd : FuncData} {N ps : List Str} {k : Nat} {c : DSp} {kws : List (Str × V)} (n : Nat) (F : FunD K x qual params body scope dvs kws f fd) (S : FnScope N ps scope) (hT : ∀ c0, fd.code = .ref c0 → TabB base mg c0 Pt) (len : ∀ ds S q e, c ds S q e → ds.length = ps.length) (hn : N.length = n := by rfl)
    (run : ∀ (c0 : Addr) (A : Around) (outer : List Env) (s : Shared) (H : Hp) (E : XK) (e : DX), TabB base mg c0 Pt → Room k (A.deeper (envOfC qual scope s.heap.objs.size f (.ref c0))) →
      ∃ t, PSs (cxOf (L2.CX P w) P w K mg base N qual scope f (.ref c0) A outer s H E) body (tDS K E e t) ∧ ∀ ds S q, c ds S q e → t { nx := fun _ S => q .non S, rt := q } (startD n ds) S) : FnOk P w K mg base (L2.CX P w) (k + 1) f fd ps (spD K c) := by
  obtain ⟨oc, od, dV, kV, doc, pm, an, cdv, ct, osl, rfl, lk, hcd, _, _⟩ := F.ex
  obtain ⟨c0, rfl⟩ := He.codeIn_ref hcd
  have TB := hT c0 rfl
  refine fn_of lk hcd S (fun vs H Q E h => ?_) fun A outer s H vs Q E hr h => ?_
  · obtain ⟨ds, S, Z, q, e, g, r, l, h, k⟩ := h
    rw [← r.len]
    exact len ds S q e h
  · obtain ⟨ds, S', Z, q, e, g, r, l, h, kk⟩ := h
    obtain ⟨t, p, h2⟩ := run c0 A outer s H E e TB hr
    refine ⟨_, p, _, S', Z, _, ⟨g, ?_, l⟩, h2 ds S' q h, ?_⟩
    · rw [← hn]
      refine start_slots N ds vs r ?_
      rw [← r.len, len ds S' q e h]
      have := congrArg List.length S.pre
      rw [List.length_take] at this
      omega
    · exact ⟨fun σ δ H S g x s q => kk .non .non H S g x rfl q, fun v d H S g x r q => kk v d H S g x r q, fun _ _ _ _ _ _ _ h => h, fun _ _ _ _ _ _ _ h => h⟩
end Dn

/-! lambdas kept in a list -/
namespace Dn
open PySem PySem.Spec PyProof.Rows L2 Pr LamX NdefX
section
variable {X : Cx} {K : PySem.W.Frag} {E : XK} {e : DX}
/-! a comprehension whose test leans on the slots at its begin -/
end
end Dn

/-! the law's call -/
namespace Dn
open PySem PySem.Spec PyProof.Rows L2 Pr LamX NdefX
/-- what stands in the store at the law's begin: tables -/
def tabS (T : List (Addr × Cell)) : Store := fun b => (T.find? fun p => decide (p.1 = b)).map (·.2)
theorem tabS_mem {T : List (Addr × Cell)} {b : Addr} {c : Cell} (h : tabS T b = some c) : (b, c) ∈ T := by
  unfold tabS at h
  cases e : T.find? fun p => decide (p.1 = b) with
  | none => rw [e] at h; cases h
  | some p =>
    rw [e] at h
    cases h
    have h1 := List.mem_of_find?_eq_some e
    have h2 : p.1 = b := by simpa using List.find?_some e
    rw [← h2]
    exact h1
theorem tabS_at {T : List (Addr × Cell)} (nd : (T.map (·.1)).Nodup) : ∀ p ∈ T, tabS T p.1 = some p.2 := by
  unfold tabS
  induction T with
  | nil => intro p h; cases h
  | cons x r ih =>
    intro p hp
    rw [List.map_cons, List.nodup_cons] at nd
    rw [List.find?_cons]
    rcases List.mem_cons.mp hp with rfl | hp
    · rw [decide_eq_true rfl]; rfl
    · have n : ¬ x.1 = p.1 := fun e => nd.1 (by rw [e]; exact List.mem_map.mpr ⟨p, hp, rfl⟩)
      rw [decide_eq_false n]
      exact ih nd.2 p hp
theorem law_start {K : PySem.W.Frag} {T : List (Addr × Cell)} {H : Hp} {a : Addr} {ns : List Int} {c : DSp} (hT : ∀ p ∈ T, H p.1 = some (.tbl #[]) ∧ ((∃ q, p.2 = .tbl q) ∨ p.2 = .gtb)) (hS : SqL K H a (ns.map V.int))
    (h : ∀ (q : DK), (∀ S', q (.bl true) S') → c [.scr ns] (tabS T) q noX) : spD K c [.ref a] H (fun v _ => v = .bl true) (fun _ _ _ => False) := by
  refine ⟨[.scr ns], tabS T, fun _ => none, fun v _ => v = .bl true, noX, ⟨fun b o z => (by cases z), fun b x hx => ?_⟩, ?_, lk_no, h _ fun _ => rfl, fun v d H' S' g x r q => ?_⟩
  · obtain ⟨h1, h2⟩ := hT _ (tabS_mem hx)
    rcases h2 with ⟨q, h2⟩ | h2
    · rw [show x = .tbl q from h2]
      exact ⟨_, h1, #[], rfl, trivial, fun pos cv z => by cases z⟩
    · rw [show x = .gtb from h2]
      exact ⟨_, h1, #[], rfl, trivial, fun pos cv z => by cases z⟩
  · refine ⟨.ref a, [], rfl, ⟨a, rfl, ?_⟩, rfl⟩
    have free : ∀ o, H a = some o → (∀ ps, o ≠ .tbl ps) → out H (tabS T) (fun _ => none) a = some o := fun o ho n => by
      refine (out_of ?_ rfl).trans ho
      cases e : tabS T a with
      | none => rfl
      | some x =>
        have := (hT _ (tabS_mem e)).1
        rw [ho] at this
        exact absurd (Option.some.inj this) (n _)
    rcases hS with (z | ⟨o, z⟩) | z
    · exact .inl (.inl (free _ z fun ps e => by cases e))
    · exact .inl (.inr ⟨o, free _ z fun ps e => by cases e⟩)
    · exact .inr z
  · rw [show d = .bl true from q] at r
    exact r
theorem tab_at {K : PySem.W.Frag} {base : Heap} {mg : Str → Option Value} {p : Str × Option Str} {oc : Value} {od : Option Addr} {osl : Array (Option Value)} {fd : FuncData} {c : Addr} (lk : K.lookup (He.fAd K p) = some ⟨oc, od, .func fd, osl⟩) (TB : TabB base mg (He.cT K p).1 (He.cT K p).2) (e : fd.code = .ref c) : TabB base mg c (He.cT K p).2 := by
  have e1 : He.codeOf K p = c := He.codeOf_eq (p := p) lk e
  rw [show (He.cT K p).1 = c from e1] at TB
  exact TB
end Dn

/-! any, all, tuple over generator expressions -/
namespace Dn
open PySem PySem.Spec PyProof.Rows L2 Pr LamX NdefX
section
variable {K : PySem.W.Frag} {Z H H1 : Hp} {S : Store} {P : Addr}
theorem good_gtb (g : Good K Z H S) (hS : S P = some .gtb) {code : Value} (x : GrowK P H H1 code) : Good K Z H1 S ∧ Ext (out H S Z) (out H1 S Z) ∧ ∃ c P', code = .ref c ∧ Rep K (out H1 S Z) (.gco c P') (.ref c) := by
  obtain ⟨⟨ps, t1, t2, t3⟩, ⟨c, P', rfl, c1, c2⟩, x⟩ := x
  have nP : ∀ φ, H1 P ≠ some (.ext φ) := fun φ z => by rw [t1] at z; cases z
  obtain ⟨g1, e1⟩ := good_only g x hS fun _ => ⟨_, t1, ps, rfl, t2, fun pos cv hcv => by
    obtain ⟨c', P'', e1, e2, e3⟩ := t3 pos cv hcv
    exact ⟨c', P'', e1, out_ext g x nP e2, out_ext g x nP e3⟩⟩
  exact ⟨g1, e1, c, P', rfl, rfl, out_ext g x nP c1, out_ext g x nP c2⟩
theorem tabK_of (g : Good K Z H S) (hS : S P = some .gtb) : TabK H P := by
  obtain ⟨o, h1, ps, rfl, h2, h3⟩ := g.c _ _ hS
  exact ⟨ps, h1, h2, fun pos cv hc => by
    obtain ⟨c, P', e1, e2, e3⟩ := h3 pos cv hc
    exact ⟨c, P', e1, out_le e2, out_le e3⟩⟩
end
/-- the slot that keeps the code object -/
@[reducible] def gho : Option Nat → Dt → DS → DS
  | some i, d, δ => putS δ i d
  | none, _, δ => δ
theorem wipe_ghost {σ : L2.St} {vs : List Nat} {ig : Option Nat} {code : Value} (h : ∀ i, ig = some i → i ∉ vs) : wipe (ghost ig code (wipe σ vs)) vs = ghost ig code (wipe σ vs) := by
  have comm : ∀ (ws : List Nat) (τ : L2.St) (i : Nat) (x : Option V), i ∉ ws → wipe (τ.set i x) ws = (wipe τ ws).set i x := fun ws τ i x hi => by
    induction ws with
    | nil => rfl
    | cons w ws ih =>
      show (wipe (τ.set i x) ws).set w none = ((wipe τ ws).set w none).set i x
      rw [ih (fun m => hi (List.mem_cons_of_mem _ m)), List.set_comm _ _ (fun z => hi (by rw [z]; exact List.mem_cons_self))]
  unfold ghost
  split
  · rename_i i c
    rw [comm vs _ i _ (h i rfl), lc_run.wipe_wipe]
  · exact lc_run.wipe_wipe
theorem slots_gho {K : PySem.W.Frag} {G : Hp} {σ : L2.St} {δ : DS} (h : Slots K G σ δ) {ig : Option Nat} {c P : Addr} (r : Rep K G (.gco c P) (.ref c)) : Slots K G (ghost ig (.ref c) σ) (gho ig (.gco c P) δ) := by
  cases ig with
  | none => exact h
  | some i => exact h.put r
@[reducible] def stopIf (stop k : Bool) (A B : Prop) : Prop := match stop with
  | true => Ift k A B
  | false => Ift k B A
/-- the turns of any (stop = true), all -/
def dAnyT (δw : DS) (stop : Bool) (g : DTG) (tt : DTT) (te : DTE) (l : List Dt) (keep : Store → Prop) (q : DK) (S1 : Store) : Prop := ∃ I : Nat → Store → Prop, I 0 S1 ∧ (∀ i S, i ≤ l.length → I i S → keep S) ∧
  (∀ i d S, l[i]? = some d → I i S → g d δw S fun δ' S' => tt δ' S' fun b S2 => Ift b (te δ' S2 fun y S3 => ∃ k, y = .bl k ∧ stopIf stop k (q (.bl stop) S3) (I (i + 1) S3)) (I (i + 1) S2)) ∧ ∀ S, I l.length S → q (.bl (!stop)) S
/-- the turns of tuple -/
def dTupT (δw : DS) (g : DTG) (tt : DTT) (te : DTE) (l : List Dt) (keep : Store → Prop) (q : DK) (S1 : Store) : Prop := l.length < sizeLine ∧ ∃ I : Nat → List Dt → Store → Prop, I 0 [] S1 ∧ (∀ i acc S, i ≤ l.length → I i acc S → keep S) ∧
  (∀ i d acc S, l[i]? = some d → I i acc S → g d δw S fun δ' S' => tt δ' S' fun b S2 => Ift b (te δ' S2 fun y S3 => I (i + 1) (acc ++ [y]) S3) (I (i + 1) acc S2)) ∧ ∀ acc S, I l.length acc S → q (.tup acc) S
section
variable {K : PySem.W.Frag}
theorem any_turns {J : It} {l : List Dt} {keep : Store → Prop} {Z H2 : Hp} {S1 : Store} {σw : L2.St} {δw : DS} {vs : List Nat} {g : DTG} {tt : DTT} {te : DTE} {q : DK} {Q : VK} {stop : Bool} {G0 : Hp} (ok : ItOk K G0 J l keep) (x0 : Ext G0 (out H2 S1 Z)) (gd : Good K Z H2 S1) (sl : Slots K (out H2 S1 Z) σw δw) (hw : wipe σw vs = σw)
    (h : dAnyT δw stop g tt te l keep q S1) (k : Ty K Z H2 S1 q Q) : ∃ W : Nat → Nat → Hp → Prop, (∃ m, W 0 m H2) ∧ TnW J (tGw K vs g) (tDT K E0 noX tt) (tD K E0 noX te) vs σw (fun y H4 Nx => ∃ b, y = .bl b ∧ if b = stop then Q (.bl stop) H4 else Nx H4) (Q (.bl (!stop))) W := by
  obtain ⟨I, h0, hk, hs, hd⟩ := h
  refine ⟨fun i m H => m = l.length - i ∧ i ≤ l.length ∧ ∃ S, Good K Z H S ∧ Ext (out H2 S1 Z) (out H S Z) ∧ I i S, ⟨_, rfl, Nat.zero_le _, S1, gd, Ext.refl, h0⟩, fun i m H ⟨hm, hi, S, g1, x1, q1⟩ => ?_⟩
  by_cases e : i = l.length
  · subst e
    exact .inl ⟨ok.stop Z H S g1 (x0.trans x1) (hk _ S hi q1), k (.bl (!stop)) (.bl (!stop)) H S g1 x1 rfl (hd S q1)⟩
  · have hi2 : i < l.length := by omega
    refine .inr ⟨ok.go Z i H S g1 (x0.trans x1) (hk i S hi q1) hi2, fun H' => ∃ S', Good K Z H' S' ∧ Ext (out H2 S1 Z) (out H' S' Z) ∧ I (i + 1) S', fun H' ⟨S', g', x', q'⟩ => ⟨l.length - (i + 1), by omega, rfl, by omega, S', g', x', q'⟩, fun x H' y => ?_⟩
    obtain ⟨d, e1, g3, x3, r3⟩ := ok.yld Z i H S x H' g1 (x0.trans x1) (hk i S hi q1) hi2 y
    have x13 := x1.trans x3
    refine ⟨d, δw, S, Z, _, g3, sl.ext x13, r3, hs i d S e1 q1, fun σ' δ' H4 S4 w4 g4 x4 s4 h4 => ⟨w4.trans hw, δ', S4, Z, _, ⟨g4, s4, lk_no⟩, h4, fun b H5 S5 g5 x5 h5 => ?_⟩⟩
    have x15 := x13.trans (x4.trans x5)
    cases b with
    | false => exact iteF ⟨S5, g5, x15, h5⟩
    | true =>
      refine iteT ⟨δ', S5, Z, _, ⟨g5, s4.ext x5, lk_no⟩, h5, fun v z H6 S6 g6 x6 r6 h6 => ?_⟩
      obtain ⟨b, rfl, h6⟩ := h6
      refine ⟨b, r6, ?_⟩
      have x16 := x15.trans x6
      cases stop <;> cases b
      · rw [if_pos rfl]
        exact k (.bl false) (.bl false) H6 S6 g6 x16 rfl h6
      · rw [if_neg (by decide)]
        exact ⟨S6, g6, x16, h6⟩
      · rw [if_neg (by decide)]
        exact ⟨S6, g6, x16, h6⟩
      · rw [if_pos rfl]
        exact k (.bl true) (.bl true) H6 S6 g6 x16 rfl h6
theorem tup_turns {J : It} {l : List Dt} {keep : Store → Prop} {Z H2 : Hp} {S1 : Store} {σw : L2.St} {δw : DS} {vs : List Nat} {g : DTG} {tt : DTT} {te : DTE} {q : DK} {Q : VK} {G0 : Hp} (ok : ItOk K G0 J l keep) (x0 : Ext G0 (out H2 S1 Z)) (gd : Good K Z H2 S1) (sl : Slots K (out H2 S1 Z) σw δw) (hw : wipe σw vs = σw)
    (h : dTupT δw g tt te l keep q S1) (k : Ty K Z H2 S1 q Q) (D : Addr) (nD : H2 D = none) : ∃ W : Nat → Nat → Hp → Prop, (∃ m, W 0 m (upd H2 D (.lst []))) ∧ TnW J (tGw K vs g) (tDT K E0 noX tt) (tD K E0 noX te) vs σw (CTup D) (fun H4 => ∃ xs, H4 D = some (.lst xs) ∧ ∀ p, H4 p = none → Q (.ref p) (upd H4 p (.tup xs))) W := by
  obtain ⟨hl, I, h0, hk, hs, hd⟩ := h
  have nZ := gd.nZ nD
  refine ⟨fun i m H => m = l.length - i ∧ i ≤ l.length ∧ ∃ S acc accV, Good K (upd Z D (.lst accV)) H S ∧ Ext (out H2 S1 Z) (out H S (upd Z D (.lst accV))) ∧ Reps K (out H S (upd Z D (.lst accV))) acc accV ∧ acc.length ≤ i ∧ I i acc S,
    ⟨_, rfl, Nat.zero_le _, S1, [], [], gd.hide nD, by rw [hide_out gd nD]; exact Ext.refl, rfl, Nat.le_refl _, h0⟩, fun i m H ⟨hm, hi, S, acc, accV, g1, x1, r1, n1, q1⟩ => ?_⟩
  by_cases e : i = l.length
  · subst e
    refine .inl ⟨ok.stop _ H S g1 (x0.trans x1) (hk _ acc S hi q1), accV, g1.at, fun p np => ?_⟩
    have nDp : D ≠ p := ne_of_none g1.at np
    have gb := g1.bare nZ
    have xb := x1.trans (bare_ext g1 nZ)
    have rb := Reps.ext (bare_ext g1 nZ) _ _ r1
    exact k (.ref p) (.tup acc) _ S (gb.new np) (xb.trans (ext_new gb np)) ⟨p, accV, rfl, SqT.of (out_new gb np), Reps.ext (ext_new gb np) _ _ rb⟩ (hd acc S q1)
  · have hi2 : i < l.length := by omega
    refine .inr ⟨ok.go _ i H S g1 (x0.trans x1) (hk i acc S hi q1) hi2, fun H' => ∃ S' acc' accV', Good K (upd Z D (.lst accV')) H' S' ∧ Ext (out H2 S1 Z) (out H' S' (upd Z D (.lst accV'))) ∧ Reps K (out H' S' (upd Z D (.lst accV'))) acc' accV' ∧ acc'.length ≤ i + 1 ∧ I (i + 1) acc' S',
      fun H' ⟨S', acc', accV', z⟩ => ⟨l.length - (i + 1), by omega, rfl, by omega, S', acc', accV', z⟩, fun x H' y => ?_⟩
    obtain ⟨d, e1, g3, x3, r3⟩ := ok.yld _ i H S x H' g1 (x0.trans x1) (hk i acc S hi q1) hi2 y
    have x13 := x1.trans x3
    refine ⟨d, δw, S, _, _, g3, sl.ext x13, r3, hs i d acc S e1 q1, fun σ' δ' H4 S4 w4 g4 x4 s4 h4 => ⟨w4.trans hw, δ', S4, _, _, ⟨g4, s4, lk_no⟩, h4, fun b H5 S5 g5 x5 h5 => ?_⟩⟩
    have x45 := x4.trans x5
    cases b with
    | false => exact iteF ⟨S5, acc, accV, g5, x13.trans x45, Reps.ext (x3.trans x45) _ _ r1, Nat.le_succ_of_le n1, h5⟩
    | true =>
      refine iteT ⟨δ', S5, _, _, ⟨g5, s4.ext x5, lk_no⟩, h5, fun v z H6 S6 g6 x6 r6 h6 => ?_⟩
      have x46 := x45.trans x6
      have r7 := Reps.ext (x3.trans x46) _ _ r1
      refine ⟨accV, g6.at, by rw [← r7.len]; omega, S6, acc ++ [z], accV ++ [v], g6.rehide, ?_, ?_, by rw [List.length_append]; exact Nat.succ_le_succ n1, h6⟩
      · rw [rehide_out (o := .lst accV)]
        exact x13.trans x46
      · rw [rehide_out (o := .lst accV)]
        exact Reps.pair.mpr (Paired.app (Reps.pair.mp r7) (.cons r6 .nil))
end
/-! rules: at the top of a def (its table P), and within another generator expression (slot iq keeps the code object) -/
@[reducible] def dAnyG (P : Addr) (ig : Option Nat) (stop : Bool) (it : DTL) (g : DTG) (w : List Nat) (tt : Value → DTT) (te : Value → DTE) : DTE := fun δ S q => it δ S fun l keep S1 => S1 P = some .gtb ∧ ∀ c P', dAnyT (gho ig (.gco c P') (wipesS δ w)) stop g (tt (.ref c)) (te (.ref c)) l keep q S1
@[reducible] def dTupG (P : Addr) (ig : Option Nat) (it : DTL) (g : DTG) (w : List Nat) (tt : Value → DTT) (te : Value → DTE) : DTE := fun δ S q => it δ S fun l keep S1 => S1 P = some .gtb ∧ ∀ c P', dTupT (gho ig (.gco c P') (wipesS δ w)) g (tt (.ref c)) (te (.ref c)) l keep q S1
section
variable {X : Cx} {K : PySem.W.Frag} {E : XK} {e : DX} {elt tg iter : Expr} {ifs : List Expr} {scope : Scope} {gpos p pos : Pos} {own : List (Str × Nat)} {it : DTL} {g : DTG} {tt : Value → DTT} {te : Value → DTE} {ti : DTT} {ei : DTE} {k : Nat} {ig : Option Nat} {P0 P c iq : Addr} {nm : Str} {stop : Bool}
/-- the body's parts over deep values -/
structure GnP (X : Cx) (K : PySem.W.Frag) (k : Nat) (scope : Scope) (vs : List Nat) (elt tg : Expr) (ifs : List Expr) (g : DTG) (tt : Value → DTT) (te : Value → DTE) : Prop where
  g : ∀ (s : Shared) (H : Hp) (A' : Around) (cl : List (Str × Addr)) (L : Addr) (code : Value) (fp : List Addr), Room k A' → PG (gnC X s H A' (genEnv scope cl L code builtinsNs X.env) fp) tg (tGw K vs g)
  t : ∀ (s : Shared) (H : Hp) (A' : Around) (cl : List (Str × Addr)) (L : Addr) (code : Value) (fp : List Addr), Room k A' → PTs (gnC X s H A' (genEnv scope cl L code builtinsNs X.env) fp) ifs (tDT K E0 noX (tt code))
  e : ∀ (s : Shared) (H : Hp) (A' : Around) (cl : List (Str × Addr)) (L : Addr) (code : Value) (fp : List Addr), Room k A' → PE (gnC X s H A' (genEnv scope cl L code builtinsNs X.env) fp) elt (tD K E0 noX (te code))
theorem GnP.parts {vs : List Nat} (h : GnP X K k scope vs elt tg ifs g tt te) : GnParts X k scope elt tg ifs (tGw K vs g) (fun c => tDT K E0 noX (tt c)) (fun c => tD K E0 noX (te c)) := ⟨h.g, h.t, h.e⟩
theorem de_anyG (hK : X.K = K) (hnm : (nm = "any" ∧ stop = true) ∨ (nm = "all" ∧ stop = false)) (hr : Room (k + 3) X.A) (hgl : Gl X nm) (hm : X.mg nm = none) (TB : TabB X.base X.mg c P) (hcode : X.env.code = .ref c) (hN : X.N.Nodup) (ok : gnB X.N X.env.scope scope own = true)
    (hig : ∀ i, ig = some i → i ∉ snds own ∧ ∀ x, X.N[i]? = some x → ¬ Vis scope x) (hi : PI X tg iter (tDI K E e it)) (hs : ∀ v, genFold iter X.env v = pure v) (pt : GnP X K k scope (snds own) elt tg ifs g tt te)
    (hst : starEach [.GeneratorExp elt [⟨tg, iter, ifs, 0⟩] scope gpos] X.env = (false, eval (.GeneratorExp elt [⟨tg, iter, ifs, 0⟩] scope gpos) X.env) :: starEach [] X.env := by rfl) :
    PE X (.Call (.Name nm p) [.GeneratorExp elt [⟨tg, iter, ifs, 0⟩] scope gpos] [] pos) (tD K E e (dAnyG P ig stop it g (snds own) tt te)) := by
  subst hK
  refine PE.imp (pe_gnAny (ig := ig) (own := own) stop nm hnm hr hgl hm TB.bm (codeStep_top hcode TB.code) hN (gnOk_by ok) (fun i e => (hig i e).2) hi hs pt.parts hst) fun σ H Q h => ?_
  obtain ⟨δ, S, Z, q, t, h, kk⟩ := h
  refine ⟨δ, S, Z, _, t, h, fun l keep H1 S1 J g1 x1 ok' h1 => ?_⟩
  obtain ⟨hP, h1⟩ := h1
  refine ⟨tabK_of g1 hP, fun H2 code gr => ?_⟩
  obtain ⟨g2, x2, c', P', rfl, rc⟩ := good_gtb g1 hP gr
  have sl := slots_gho (ig := ig) (slots_wipes (t.sl.ext (x1.trans x2)) (snds own)) rc
  rw [← snds_eq]
  exact any_turns ok' x2 g2 sl (wipe_ghost fun i e => (hig i e).1) (h1 c' P') (kk.ext (x1.trans x2))
theorem de_tupG (hK : X.K = K) (hr : Room (k + 3) X.A) (hgl : Gl X "tuple") (hm : X.mg "tuple" = none) (TB : TabB X.base X.mg c P) (hcode : X.env.code = .ref c) (hN : X.N.Nodup) (ok : gnB X.N X.env.scope scope own = true)
    (hig : ∀ i, ig = some i → i ∉ snds own ∧ ∀ x, X.N[i]? = some x → ¬ Vis scope x) (hi : PI X tg iter (tDI K E e it)) (hs : ∀ v, genFold iter X.env v = pure v) (pt : GnP X K k scope (snds own) elt tg ifs g tt te)
    (hst : starEach [.GeneratorExp elt [⟨tg, iter, ifs, 0⟩] scope gpos] X.env = (false, eval (.GeneratorExp elt [⟨tg, iter, ifs, 0⟩] scope gpos) X.env) :: starEach [] X.env := by rfl) :
    PE X (.Call (.Name "tuple" p) [.GeneratorExp elt [⟨tg, iter, ifs, 0⟩] scope gpos] [] pos) (tD K E e (dTupG P ig it g (snds own) tt te)) := by
  subst hK
  refine PE.imp (pe_gnTup (ig := ig) (own := own) hr hgl hm TB.bm (codeStep_top hcode TB.code) hN (gnOk_by ok) (fun i e => (hig i e).2) hi hs pt.parts hst) fun σ H Q h => ?_
  obtain ⟨δ, S, Z, q, t, h, kk⟩ := h
  refine ⟨δ, S, Z, _, t, h, fun l keep H1 S1 J g1 x1 ok' h1 => ?_⟩
  obtain ⟨hP, h1⟩ := h1
  refine ⟨tabK_of g1 hP, fun H2 code gr D nD => ?_⟩
  obtain ⟨g2, x2, c', P', rfl, rc⟩ := good_gtb g1 hP gr
  have sl := slots_gho (ig := ig) (slots_wipes (t.sl.ext (x1.trans x2)) (snds own)) rc
  rw [← snds_eq]
  exact tup_turns ok' x2 g2 sl (wipe_ghost fun i e => (hig i e).1) (h1 c' P') (kk.ext (x1.trans x2)) D nD
end
end Dn

/-! texts' methods, f-strings, int and str -/
namespace Dn
open PySem PySem.Spec PyProof.Rows L2 Pr LamX NdefX
open PySem.Builtin.Str (strSub partsBetween glued)
theorem SOk.strSub {a : Str} (h : SOk a) (i j : Nat) : SOk (Builtin.Str.strSub a i j) := by
  have e := StrLaws.strSub_toList a i j
  refine h.sub (fun c hc => ?_) ?_
  · rw [e] at hc
    exact List.mem_of_mem_drop (List.mem_of_mem_take hc)
  · rw [len_cps, len_cps, e]
    rw [List.length_take, List.length_drop]
    omega
theorem SOk.parts {a : Str} (h : SOk a) (cuts : List Nat) (w : Nat) : ∀ x ∈ Builtin.Str.partsBetween a cuts w, SOk x := fun x hx => by
  unfold Builtin.Str.partsBetween at hx
  obtain ⟨p, _, rfl⟩ := List.mem_map.mp hx
  exact h.strSub _ _
theorem SOk.split {a : Str} (h : SOk a) (b : Str) : ∀ x ∈ Txt.split a b, SOk x := fun x hx => by
  unfold Txt.split at hx
  split at hx
  · rw [List.mem_singleton.mp hx]; exact h
  · split at hx
    · rw [List.mem_singleton.mp hx]; exact h
    · exact h.parts _ _ x hx
theorem SOk.strip {a : Str} (h : SOk a) : SOk (Txt.strip a) := by
  unfold Txt.strip Txt.stripBy
  split
  · exact h
  · exact h.strSub _ _
theorem SOk.words {a : Str} (h : SOk a) : ∀ x ∈ Txt.words a, SOk x := fun x hx => by
  unfold Txt.words at hx
  split at hx
  · rw [List.mem_singleton.mp hx]; exact h
  · unfold wordsOf at hx
    obtain ⟨p, _, rfl⟩ := List.mem_map.mp hx
    exact h.strSub _ _
section
variable {K : PySem.W.Frag} {Z H : Hp} {S : Store}
theorem reps_strs {G : Hp} : ∀ {ys : List Str}, (∀ y ∈ ys, SOk y) → Reps K G (ys.map Dt.str) (ys.map V.str)
  | [], _ => rfl
  | y :: r, h => ⟨.str y, r.map V.str, rfl, ⟨rfl, h y List.mem_cons_self⟩, reps_strs fun z hz => h z (List.mem_cons_of_mem _ hz)⟩
theorem strs_of {G : Hp} : ∀ {ys : List Str} {vs : List V}, Reps K G (ys.map Dt.str) vs → vs = ys.map V.str ∧ ∀ y ∈ ys, SOk y
  | [], vs, h => ⟨h, fun y hy => by cases hy⟩
  | y :: r, vs, h => by
    obtain ⟨v, w, rfl, h1, h2⟩ := h
    obtain ⟨rfl, h3⟩ := strs_of (ys := r) h2
    rw [h1.1]
    exact ⟨rfl, fun z hz => (List.mem_cons.mp hz).elim (fun e => by rw [e]; exact h1.2) (h3 z)⟩
end
/-! readings -/
@[reducible] def rmSplit0 : DMr := fun x ds S q => match x, ds with
  | .str a, [] => a.length + 2 ≤ sizeLine ∧ q (.lst ((Txt.words a).map Dt.str)) S
  | _, _ => False
@[reducible] def rmStarts : DMr := fun x ds S q => match x, ds with
  | .str a, [.str b] => q (.bl (Txt.startswith a b)) S
  | _, _ => False
/-- the texts of a list or a tuple -/
def rmJoin : DMr := fun x ds S q => match x, ds with
  | .str a, [y] => seeQ y S fun l => ∃ ys : List Str, l = ys.map Dt.str ∧ ((ys.map (·.length)).sum + ys.length * a.length ≤ 16777216 ∧ SOk (Txt.join a ys)) ∧ q (.str (Txt.join a ys)) S
  | _, _ => False
@[reducible] def rcStr : DCr := fun xs S q => match xs with
  | [.int i] => (i.natAbs.log2 < 1920 ∧ SOk (toString i)) ∧ q (.str (toString i)) S
  | [.str z] => q (.str z) S
  | _ => False
def rcIntS : DCr := fun xs S q => match xs with
  | [.str z] => ∃ n, (PySem.intText? z = some n ∧ z.length ≤ 640) ∧ q (.int n) S
  | _ => False
section
variable {X : Cx} {K : PySem.W.Frag} {E : XK} {e : DX}
theorem md_split0 : MtR X "str.split" (rDM K rmSplit0) := fun pins s σ H x xs v us Q I rx r ⟨d, ds, S, Z, q, g, rd, rs, h, k⟩ => by
  match d, ds, h with
  | .str a, [], h =>
    exact mt_words pins s σ H x _ v us Q I rx r ⟨a, rd.1, rs, h.1, fun p np => k.new g np h.2 ⟨p, _, rfl, out_new g np, reps_strs (SOk.words rd.2)⟩⟩
theorem md_startswith1 : MtR X "str.startswith" (rDM K rmStarts) := fun pins s σ H x xs v us Q I rx r ⟨d, ds, S, Z, q, g, rd, rs, h, k⟩ => by
  match d, ds, h with
  | .str a, [.str b], h =>
    obtain ⟨w, rfl, rw'⟩ := reps1 rs
    exact mt_startswith pins s σ H x _ v us Q I rx r ⟨a, b, rd.1, by rw [rw'.1], k.here g h rfl⟩
theorem md_join (hK : X.K = K) : MtR X "str.join" (rDM K rmJoin) := fun pins s σ H x xs v us Q I rx r ⟨d, ds, S, Z, q, g, rd, rs, h, k⟩ => by
  subst hK
  match d, ds, h with
  | .str a, [y], h =>
    obtain ⟨w, rfl, rw'⟩ := reps1 rs
    obtain ⟨p, vs, l, rfl, hs, hl, ys, rfl, hz, hq⟩ := see_seq g rw' h
    obtain ⟨rfl, _⟩ := strs_of hl
    exact mt_join pins s σ H x _ v us Q I rx r ⟨a, p, ys, rd.1, rfl, hs, hz.1, k.here g hq ⟨rfl, hz.2⟩⟩
theorem cd_str : CallR X (.type "str") (rDC K rcStr) := fun pins s σ H xs us Q I r ⟨ds, S, Z, q, g, rs, h, k⟩ => by
  match ds, h with
  | [.int i], h =>
    obtain ⟨v, rfl, rv⟩ := reps1 rs
    exact call_str_int pins s σ H _ us Q I r ⟨i, by rw [show v = _ from rv], h.1.1, k.here g h.2 ⟨rfl, h.1.2⟩⟩
  | [.str z], h =>
    obtain ⟨v, rfl, rv⟩ := reps1 rs
    exact SkE.call_str_str pins s σ H _ us Q I r ⟨z, by rw [rv.1], k.here g h ⟨rfl, rv.2⟩⟩
theorem cd_intS : CallR X (.type "int") (rDC K rcIntS) := fun pins s σ H xs us Q I r ⟨ds, S, Z, q, g, rs, h, k⟩ => by
  match ds, h with
  | [.str z], ⟨n, h1, h⟩ =>
    obtain ⟨v, rfl, rv⟩ := reps1 rs
    exact call_int_str pins s σ H _ us Q I r ⟨z, n, by rw [rv.1], h1.1, h1.2, k.here g h rfl⟩
/-! f-strings -/
@[reducible] def dFmt (a : DTE) : DTE := fun δ S q => a δ S fun x S1 => match x with
  | .str z => q (.str z) S1
  | .int i => (i.natAbs.log2 < 1920 ∧ SOk (toString i)) ∧ q (.str (toString i)) S1
  | _ => False
theorem de_fmt {a : Expr} {da : DTE} {pos : Pos} (h : PE X a (tD K E e da)) : PE X (.FormattedValue a (-1) none pos) (tD K E e (dFmt da)) := PE.imp (pe_fmt h) fun σ H Q h => by
  refine tD_seq h fun v x δ S Z H1 q t r h k => ?_
  cases x with
  | str z => exact .inl ⟨z, r.1, r.2.len, k.here t.good h ⟨rfl, r.2⟩⟩
  | int i => exact .inr ⟨i, r, h.1.1, k.here t.good h.2 ⟨rfl, h.1.2⟩⟩
  | _ => exact h.elim
inductive PJD (X : Cx) (K : PySem.W.Frag) (E : XK) (e : DX) : List Expr → List DTE → Prop where
  | nil : PJD X K E e [] []
  | cons {a : Expr} {t : DTE} {es : List Expr} {ts : List DTE} (h : PE X a (tD K E e t)) (r : PJD X K E e es ts) : PJD X K E e (a :: es) (t :: ts)
@[reducible] def dJs : List DTE → Str → DS → Store → (Str → Store → Prop) → Prop
  | [], acc, _, S, q => q acc S
  | t :: ts, acc, δ, S, q => t δ S fun x S1 => match x with
    | .str y => (acc.length + y.length ≤ sizeLine) ∧ dJs ts (acc ++ y) δ S1 q
    | _ => False
@[reducible] def dJoined (ts : List DTE) : DTE := fun δ S q => dJs ts "" δ S fun z S1 => q (.str z) S1
theorem PJD.pj {es : List Expr} {ts : List DTE} (h : PJD X K E e es ts) : PJ X es (ts.map (tD K E e)) := by
  induction h with
  | nil => exact .nil
  | cons h _ ih => exact .cons h ih
theorem de_joined {v1 v2 : Expr} {rest : List Expr} {ts : List DTE} {pos : Pos} (h : PJD X K E e (v1 :: v2 :: rest) ts) : PE X (.JoinedStr (v1 :: v2 :: rest) pos) (tD K E e (dJoined ts)) := PE.imp (pe_joined h.pj) fun σ H Q hq => by
  obtain ⟨δ, S, Z, q, t, hd, k⟩ := hq
  have go : ∀ (ts : List DTE) (acc : Str) (H1 : Hp) (S1 : Store), SOk acc → Good K Z H1 S1 → Ext (out H S Z) (out H1 S1 Z) → dJs ts acc δ S1 (fun z S1 => q (.str z) S1) → tJs (ts.map (tD K E e)) acc σ H1 fun out H1 => Q (.str out) H1 := fun ts => by
    induction ts with
    | nil => intro acc H1 S1 sa g x h; exact k _ (.str acc) H1 S1 g x ⟨rfl, sa⟩ h
    | cons t0 ts ih =>
      intro acc H1 S1 sa g x h
      refine ⟨δ, S1, Z, _, t.to g x, h, fun v y H2 S2 g2 x2 r2 h2 => ?_⟩
      cases y with
      | str y =>
        obtain ⟨h3, h4⟩ := h2
        exact ⟨y, r2.1, by rw [app_len]; exact h3, ih (acc ++ y) H2 S2 (sa.app r2.2 h3) g2 (x.trans x2) h4⟩
      | _ => exact h2.elim
  exact go ts _ H S SOk.empty t.good Ext.refl hd
end
end Dn

/-! constants of the module: dicts with texts as keys, tuples; equal dicts of data -/
namespace Dn
open PySem PySem.Spec PyProof.Rows L2 Pr LamX NdefX
/-! the top's run asks the world's rows: by cases -/
def ftW (L : List (String × Bool)) (w : World) : World := { w with params := { w.params with followText := fun s => match L.lookup s with
  | some b => b
  | none => w.params.followText s } }
theorem ftW_eq {w : World} : ∀ {L : List (String × Bool)}, (∀ p ∈ L, w.params.followText p.1 = p.2) → ftW L w = w := fun {L} h => by
  have e : (fun s => match L.lookup s with
    | some b => b
    | none => w.params.followText s) = w.params.followText := by
    funext s
    induction L with
    | nil => rfl
    | cons p r ih =>
      obtain ⟨a, b⟩ := p
      rw [List.lookup_cons]
      by_cases hs : s = a
      · subst hs
        simp only [beq_self_eq_true]
        exact (h (s, b) List.mem_cons_self).symm
      · rw [show (s == a) = false from by simpa using hs]
        exact ih fun p hp => h p (List.mem_cons_of_mem _ hp)
  unfold ftW
  rw [e]
/-- a constant's value -/
@[reducible] def dvD : He.Dv → Dt
  | .bl b => .bl b
  | .int i => .int i
  | .str z => .str z
  | _ => .non
def sokB (z : Str) : Bool := decide (z.length ≤ sizeLine) && PySem.PyData.strOk z
def dvOk : He.Dv → Bool
  | .non => true
  | .bl _ => true
  | .int _ => true
  | .str z => sokB z
  | _ => false
theorem sokB_ok {z : Str} (h : sokB z = true) : SOk z := by
  unfold sokB at h
  rw [Bool.and_eq_true, decide_eq_true_iff] at h
  exact ⟨h.1, h.2⟩
theorem rep_dv {K : PySem.W.Frag} {G : Hp} {d : He.Dv} (h : dvOk d = true) : Rep K G (dvD d) (d.v K) := by
  cases d with
  | str z => exact ⟨rfl, sokB_ok h⟩
  | non => rfl
  | bl b => rfl
  | int i => rfl
  | _ => cases h
theorem reps_dv {K : PySem.W.Frag} {G : Hp} : ∀ {l : List He.Dv}, l.all dvOk = true → Reps K G (l.map dvD) (l.map (He.Dv.v K))
  | [], _ => rfl
  | d :: l, h => by
    rw [List.all_cons, Bool.and_eq_true] at h
    exact ⟨_, _, rfl, rep_dv h.1, reps_dv h.2⟩
/-- a tuple of the module -/
theorem rep_tup {K : PySem.W.Frag} {a : Addr} {l : List He.Dv} (h : ∀ H, SqT K H a (l.map (He.Dv.v K))) (ok : l.all dvOk = true := by decide +kernel) : ∀ G, Rep K G (.tup (l.map dvD)) (.ref a) := fun G => ⟨a, _, rfl, h G, reps_dv ok⟩
/-- a dict of the module with texts as keys -/
structure KdX (K : PySem.W.Frag) (w : World) (a : Addr) (kvs : List (Str × He.Dv)) : Prop where
  kd : ∃ es n, KDict K w a es n
  ok : kvs.all (fun p => dvOk p.2) = true
  get : ∀ z d, aGet kvs z = some d → ∃ u, PySem.W.nsIn K a z = some (some u) ∧ RelV (d.v K) u
  no : ∀ z, aGet kvs z = none → PySem.W.nsIn K a z = some none
theorem tabW {fa : List He.Fa} {fn : List He.DefD} {ts : List He.Tab} {w : World} {K : PySem.W.Frag} (c : He.SaysT fa fn ts w K) (i : Nat) {t : He.Tab} (h : ts[i]? = some t := by rfl) : He.dicW K (t.1 K) = some (He.keysIn w.params t.2) := by
  have e : ts.map (fun t => He.dicW K (t.1 K)) = ts.map fun t => some (He.keysIn w.params t.2) := congrArg (fun z : He.AlT => z.2) c
  have e2 : (ts.map fun t => He.dicW K (t.1 K))[i]? = (ts.map fun t => some (He.keysIn w.params t.2))[i]? := by rw [e]
  rw [List.getElem?_map, List.getElem?_map, h] at e2
  exact Option.some.inj e2
theorem ents_none {P : Params} {z : Str} : ∀ {l : List DictEntry} {ks : List Str}, l.map He.keyOf = He.keysIn P ks → z ∉ ks → l.find? (fun e => e.key.isStr z) = none ∧ l.any (·.refKey) = false
  | [], _, _, _ => ⟨rfl, rfl⟩
  | e :: r, [], h, _ => by cases h
  | e :: r, k :: ks, h, n => by
    have h1 : He.keyOf e :: r.map He.keyOf = some (k, PyData.keyHash P k) :: He.keysIn P ks := h
    injection h1 with h2 h3
    obtain ⟨i1, i2⟩ := ents_none h3 fun m => n (List.mem_cons_of_mem _ m)
    unfold He.keyOf at h2
    split at h2
    · rename_i x t q
      obtain ⟨h5, _⟩ := Prod.mk.inj (Option.some.inj h2)
      subst h5
      have ne : (x == z) = false := by
        cases hb : x == z with
        | false => rfl
        | true => exact absurd List.mem_cons_self (by rw [← eq_of_beq hb] at n; exact n)
      refine ⟨?_, ?_⟩
      · rw [List.find?_cons, q]
        show (match x == z with | true => some e | false => r.find? _) = none
        rw [ne]
        exact i1
      · rw [List.any_cons, i2]
        show (e.refKey || false) = false
        unfold DictEntry.refKey
        rw [q]
        rfl
    · cases h2
theorem dicW_none {K : PySem.W.Frag} {w : World} {a : Addr} {ks : List Str} {z : Str} (h : He.dicW K a = some (He.keysIn w.params ks)) (hz : z ∉ ks) : PySem.W.nsIn K a z = some none := by
  unfold He.dicW at h
  unfold PySem.W.nsIn
  split at h
  · rename_i c es n sl e
    rw [e]
    split at h
    · obtain ⟨h1, h2⟩ := ents_none (Option.some.inj h) hz
      show (match es.toList.find? (fun e => e.key.isStr z) with
        | some e => some (some e.val)
        | none => if es.toList.any (·.refKey) then none else some none) = some none
      rw [h1, h2]
      rfl
    · cases h
  · cases h
theorem kdx_of {K : PySem.W.Frag} {w : World} {a : Addr} {kvs : List (Str × He.Dv)} (hd : He.dicW K a = some (He.keysIn w.params (kvs.map (·.1)))) (hv : He.valsB K a kvs = true) (ok : kvs.all (fun p => dvOk p.2) = true := by decide +kernel) : KdX K w a kvs :=
  ⟨He.dicW_ok hd, ok, fun z d h => He.valsB_ok hv (q := (z, d)) (aGet_mem h), fun z h => dicW_none hd fun hm => by
    obtain ⟨⟨k, v⟩, hp, rfl⟩ := List.mem_map.mp hm
    exact aGet_none.mp h v hp⟩
section
variable {X : Cx} {K : PySem.W.Frag} {E : XK} {e : DX} {a b : Expr} {da db : DTE} {pos : Pos} {d : Addr} {kvs : List (Str × He.Dv)}
@[reducible] def rNinK (d : Addr) (kvs : List (Str × He.Dv)) : D2 := fun x y S q => match x, y with
  | .str z, .ref a => a = d ∧ q (.bl (!(aGet kvs z).isSome)) S
  | _, _ => False
@[reducible] def rIxK (d : Addr) (kvs : List (Str × He.Dv)) : D2 := fun x y S q => match x, y with
  | .ref a, .str z => a = d ∧ ∃ v, aGet kvs z = some v ∧ q (dvD v) S
  | _, _ => False
theorem kdx_ns (k : KdX K X.w d kvs) (z : Str) : ∃ r, PySem.W.nsIn K d z = some r ∧ r.isSome = (aGet kvs z).isSome := by
  cases e : aGet kvs z with
  | none => exact ⟨none, k.no z e, rfl⟩
  | some v =>
    obtain ⟨u, h1, _⟩ := k.get z v e
    exact ⟨some u, h1, rfl⟩
theorem od_notinK (hK : X.K = K) (kd : KdX K X.w d kvs) : OpR X (compareOp .NotIn) (rD K (rNinK d kvs)) := fun pins s σ H x y v u Q I rv ru ⟨dx, dy, S, Z, q, g, rx, ry, h, k⟩ => by
  subst hK
  match dx, dy, h with
  | .str z, .ref a, h =>
    obtain ⟨rfl, hq⟩ := h
    obtain ⟨es, n, D⟩ := kd.kd
    obtain ⟨r, h1, h2⟩ := kdx_ns kd z
    exact op_notIn_kd D pins s σ H x y v u Q I rv ru ⟨z, r, rx.1, ry, h1, by rw [h2]; exact k.here g hq rfl⟩
theorem ix_K (hK : X.K = K) (kd : KdX K X.w d kvs) : IxR X (rD K (rIxK d kvs)) := by
  subst hK
  intro value slice pins s σ H x y v u Q I rv ru h sub
  obtain ⟨dx, dy, S, Z, q, g, rx, ry, h, k⟩ := h
  match dx, dy, h with
  | .ref a, .str z, h =>
    obtain ⟨rfl, d, hd, hq⟩ := h
    obtain ⟨es, n, D⟩ := kd.kd
    obtain ⟨u0, h1, h2⟩ := kd.get z d hd
    refine ix_kdict value slice pins s σ H x y v u Q I rv ru ⟨a, z, d.v X.K, rx, ry.1, ⟨es, n, u0, D.at_, D.lit, h1, h2⟩, k.here g hq (rep_dv ?_)⟩ sub
    exact List.all_eq_true.mp kd.ok (z, d) (aGet_mem hd)
theorem de_ixK (hK : X.K = K) (kd : KdX K X.w d kvs) (ha : PE X a (tD K E e da)) (hb : PE X b (tD K E e db)) (hs : PlainIx b := by exact fun _ _ => rfl) : PE X (.Subscript a b pos) (tD K E e (dOp (rIxK d kvs) da db)) := PE.imp (pe_ix (ix_K hK kd) ha hb hs) fun _ _ _ h => tD_op h
/-! generator expressions: tests -/
theorem gnB_of {N : List Str} {sc scope : Scope} {own : List (Str × Nat)} (h : gnB N sc scope own = true) : gnB N sc scope own = true := h
/-! equal dicts of data -/
end
end Dn

namespace K19
open PySem PySem.Spec PyProof.Rows L2 Pr Dn
def top (i : Nat) : Stmt := PySem.Challenge.pw_pagestack_k19_what_a_page_says.main.body.getD i (.Pass ⟨0, 0, 0, 0⟩)
abbrev s_wall : Stmt := top 0
abbrev s_role_of : Stmt := top 4
abbrev s_is_left_out : Stmt := top 5
abbrev s_name_of : Stmt := top 6
abbrev s_label_for : Stmt := top 7
abbrev s_outline : Stmt := top 8
abbrev s_focus_order : Stmt := top 9
abbrev s_order_told : Stmt := top 10
abbrev s_headings : Stmt := top 11
abbrev s_Node_init : Stmt := inClass (top 20) 0
abbrev s_Node_is_text : Stmt := inClass (top 20) 1
abbrev s_Node_attribute : Stmt := inClass (top 20) 2
abbrev s_Node_class_words : Stmt := inClass (top 20) 3
abbrev s_Node_element_children : Stmt := inClass (top 20) 4
abbrev s_Node_place_in : Stmt := inClass (top 20) 5
abbrev s_Node_path : Stmt := inClass (top 20) 6
abbrev s_Node_levels_below : Stmt := inClass (top 20) 7
abbrev s_Node_all_nodes : Stmt := inClass (top 20) 8
abbrev s_Node_content : Stmt := inClass (top 20) 9
abbrev s_Node_shown : Stmt := inClass (top 20) 10
abbrev s_Document_init : Stmt := inClass (top 21) 0
abbrev s_Document_make : Stmt := inClass (top 21) 1
abbrev s_Document_node_of : Stmt := inClass (top 21) 2
abbrev s_Document_append : Stmt := inClass (top 21) 3
abbrev s_Document_place_before : Stmt := inClass (top 21) 4
abbrev s_Document_remove : Stmt := inClass (top 21) 5
abbrev s_Document_set_attribute : Stmt := inClass (top 21) 6
abbrev s_Document_set_text : Stmt := inClass (top 21) 7
abbrev s_Document_by_id : Stmt := inClass (top 21) 8
abbrev s_Scanner_init : Stmt := inClass (top 27) 0
abbrev s_Scanner_here : Stmt := inClass (top 27) 1
abbrev s_Scanner_skip_blanks : Stmt := inClass (top 27) 2
abbrev s_Scanner_read_name : Stmt := inClass (top 27) 3
abbrev s_Scanner_up_to : Stmt := inClass (top 27) 4
abbrev s_with_entities : Stmt := top 28
abbrev s_TreeBuilder_init : Stmt := inClass (top 29) 0
abbrev s_TreeBuilder_build : Stmt := inClass (top 29) 1
abbrev s_TreeBuilder_text_run : Stmt := inClass (top 29) 2
abbrev s_TreeBuilder_start_tag : Stmt := inClass (top 29) 3
abbrev s_TreeBuilder_close_before : Stmt := inClass (top 29) 4
abbrev s_TreeBuilder_read_attributes : Stmt := inClass (top 29) 5
abbrev s_TreeBuilder_end_tag : Stmt := inClass (top 29) 6
abbrev s_start_state : Stmt := top 30
abbrev s_parse_markup : Stmt := top 31
abbrev s_law_dice : Stmt := top 33
abbrev s_law_roll : Stmt := top 34
abbrev s_law_rounds : Stmt := top 35
abbrev s_law_markup : Stmt := top 36
abbrev s_law_role : Stmt := top 37
abbrev s_law_words : Stmt := top 38
abbrev s_law_every : Stmt := top 39
abbrev s_law_name : Stmt := top 40
abbrev s_law_order : Stmt := top 41
abbrev s_law : Stmt := top 42
theorem sc_role_of : FnScope ["node", "told", "kind"] ["node"] (defScope s_role_of) := ⟨rfl, rfl, rfl, by decide +kernel, rfl, by decide +kernel, by decide +kernel⟩
theorem sc_is_left_out : FnScope ["node", "one"] ["node"] (defScope s_is_left_out) := ⟨rfl, rfl, rfl, by decide +kernel, rfl, by decide +kernel, by decide +kernel⟩
theorem sc_name_of : FnScope ["node", "document", "told", "other", "name"] ["node", "document"] (defScope s_name_of) := ⟨rfl, rfl, rfl, by decide +kernel, rfl, by decide +kernel, by decide +kernel⟩
theorem sc_label_for : FnScope ["node", "document", "number", "one"] ["node", "document"] (defScope s_label_for) := ⟨rfl, rfl, rfl, by decide +kernel, rfl, by decide +kernel, by decide +kernel⟩
theorem sc_outline : FnScope ["document", "found", "node", "above", "one"] ["document"] (defScope s_outline) := ⟨rfl, rfl, rfl, by decide +kernel, rfl, by decide +kernel, by decide +kernel⟩
theorem sc_focus_order : FnScope ["document", "rows", "node", "told", "order", "place", "number"] ["document"] (defScope s_focus_order) := ⟨rfl, rfl, rfl, by decide +kernel, rfl, by decide +kernel, by decide +kernel⟩
theorem sc_order_told : FnScope ["node", "text", "digits", "sign"] ["node"] (defScope s_order_told) := ⟨rfl, rfl, rfl, by decide +kernel, rfl, by decide +kernel, by decide +kernel⟩
theorem sc_headings : FnScope ["document", "rows", "gaps", "before", "node", "level"] ["document"] (defScope s_headings) := ⟨rfl, rfl, rfl, by decide +kernel, rfl, by decide +kernel, by decide +kernel⟩
theorem sc_Node_init : FnScope ["self", "number", "tag", "text"] ["self", "number", "tag", "text"] (defScope s_Node_init) := ⟨rfl, rfl, rfl, by decide +kernel, rfl, by decide +kernel, by decide +kernel⟩
theorem sc_Node_is_text : FnScope ["self"] ["self"] (defScope s_Node_is_text) := ⟨rfl, rfl, rfl, by decide +kernel, rfl, by decide +kernel, by decide +kernel⟩
theorem sc_Node_attribute : FnScope ["self", "name"] ["self", "name"] (defScope s_Node_attribute) := ⟨rfl, rfl, rfl, by decide +kernel, rfl, by decide +kernel, by decide +kernel⟩
theorem sc_Node_place_in : FnScope ["self", "place", "child"] ["self"] (defScope s_Node_place_in) := ⟨rfl, rfl, rfl, by decide +kernel, rfl, by decide +kernel, by decide +kernel⟩
theorem sc_Node_path : FnScope ["self", "found", "node"] ["self"] (defScope s_Node_path) := ⟨rfl, rfl, rfl, by decide +kernel, rfl, by decide +kernel, by decide +kernel⟩
theorem sc_Node_levels_below : FnScope ["self", "level", "found", "node", "child"] ["self"] (defScope s_Node_levels_below) := ⟨rfl, rfl, rfl, by decide +kernel, rfl, by decide +kernel, by decide +kernel⟩
theorem sc_Node_all_nodes : FnScope ["self", "found", "left", "node"] ["self"] (defScope s_Node_all_nodes) := ⟨rfl, rfl, rfl, by decide +kernel, rfl, by decide +kernel, by decide +kernel⟩
theorem sc_Node_content : FnScope ["self", "node"] ["self"] (defScope s_Node_content) := ⟨rfl, rfl, rfl, by decide +kernel, rfl, by decide +kernel, by decide +kernel⟩
theorem sc_Node_shown : FnScope ["self", "rows", "child"] ["self"] (defScope s_Node_shown) := ⟨rfl, rfl, rfl, by decide +kernel, rfl, by decide +kernel, by decide +kernel⟩
theorem sc_Document_init : FnScope ["self"] ["self"] (defScope s_Document_init) := ⟨rfl, rfl, rfl, by decide +kernel, rfl, by decide +kernel, by decide +kernel⟩
theorem sc_Document_make : FnScope ["self", "tag", "text", "node"] ["self", "tag", "text"] (defScope s_Document_make) := ⟨rfl, rfl, rfl, by decide +kernel, rfl, by decide +kernel, by decide +kernel⟩
theorem sc_Document_node_of : FnScope ["self", "number"] ["self", "number"] (defScope s_Document_node_of) := ⟨rfl, rfl, rfl, by decide +kernel, rfl, by decide +kernel, by decide +kernel⟩
theorem sc_Document_append : FnScope ["self", "parent", "child"] ["self", "parent", "child"] (defScope s_Document_append) := ⟨rfl, rfl, rfl, by decide +kernel, rfl, by decide +kernel, by decide +kernel⟩
theorem sc_Document_place_before : FnScope ["self", "parent", "child", "place", "before", "node"] ["self", "parent", "child", "place"] (defScope s_Document_place_before) := ⟨rfl, rfl, rfl, by decide +kernel, rfl, by decide +kernel, by decide +kernel⟩
theorem sc_Document_remove : FnScope ["self", "child", "place"] ["self", "child"] (defScope s_Document_remove) := ⟨rfl, rfl, rfl, by decide +kernel, rfl, by decide +kernel, by decide +kernel⟩
theorem sc_Document_by_id : FnScope ["self", "name", "node"] ["self", "name"] (defScope s_Document_by_id) := ⟨rfl, rfl, rfl, by decide +kernel, rfl, by decide +kernel, by decide +kernel⟩
theorem sc_Scanner_init : FnScope ["self", "text"] ["self", "text"] (defScope s_Scanner_init) := ⟨rfl, rfl, rfl, by decide +kernel, rfl, by decide +kernel, by decide +kernel⟩
theorem sc_Scanner_here : FnScope ["self", "many"] ["self", "many"] (defScope s_Scanner_here) := ⟨rfl, rfl, rfl, by decide +kernel, rfl, by decide +kernel, by decide +kernel⟩
theorem sc_Scanner_skip_blanks : FnScope ["self"] ["self"] (defScope s_Scanner_skip_blanks) := ⟨rfl, rfl, rfl, by decide +kernel, rfl, by decide +kernel, by decide +kernel⟩
theorem sc_Scanner_read_name : FnScope ["self", "start"] ["self"] (defScope s_Scanner_read_name) := ⟨rfl, rfl, rfl, by decide +kernel, rfl, by decide +kernel, by decide +kernel⟩
theorem sc_Scanner_up_to : FnScope ["self", "sign", "end", "found"] ["self", "sign"] (defScope s_Scanner_up_to) := ⟨rfl, rfl, rfl, by decide +kernel, rfl, by decide +kernel, by decide +kernel⟩
theorem sc_with_entities : FnScope ["text", "found", "place", "end", "name"] ["text"] (defScope s_with_entities) := ⟨rfl, rfl, rfl, by decide +kernel, rfl, by decide +kernel, by decide +kernel⟩
theorem sc_TreeBuilder_init : FnScope ["self", "text"] ["self", "text"] (defScope s_TreeBuilder_init) := ⟨rfl, rfl, rfl, by decide +kernel, rfl, by decide +kernel, by decide +kernel⟩
theorem sc_TreeBuilder_build : FnScope ["self"] ["self"] (defScope s_TreeBuilder_build) := ⟨rfl, rfl, rfl, by decide +kernel, rfl, by decide +kernel, by decide +kernel⟩
theorem sc_TreeBuilder_text_run : FnScope ["self", "end", "text"] ["self"] (defScope s_TreeBuilder_text_run) := ⟨rfl, rfl, rfl, by decide +kernel, rfl, by decide +kernel, by decide +kernel⟩
theorem sc_TreeBuilder_start_tag : FnScope ["self", "tag", "attributes", "node", "text"] ["self"] (defScope s_TreeBuilder_start_tag) := ⟨rfl, rfl, rfl, by decide +kernel, rfl, by decide +kernel, by decide +kernel⟩
theorem sc_TreeBuilder_close_before : FnScope ["self", "tag", "place"] ["self", "tag"] (defScope s_TreeBuilder_close_before) := ⟨rfl, rfl, rfl, by decide +kernel, rfl, by decide +kernel, by decide +kernel⟩
theorem sc_TreeBuilder_read_attributes : FnScope ["self", "found", "name"] ["self"] (defScope s_TreeBuilder_read_attributes) := ⟨rfl, rfl, rfl, by decide +kernel, rfl, by decide +kernel, by decide +kernel⟩
theorem sc_TreeBuilder_end_tag : FnScope ["self", "tag", "places", "place", "node"] ["self"] (defScope s_TreeBuilder_end_tag) := ⟨rfl, rfl, rfl, by decide +kernel, rfl, by decide +kernel, by decide +kernel⟩
theorem sc_start_state : FnScope ["node"] ["node"] (defScope s_start_state) := ⟨rfl, rfl, rfl, by decide +kernel, rfl, by decide +kernel, by decide +kernel⟩
theorem sc_parse_markup : FnScope ["text"] ["text"] (defScope s_parse_markup) := ⟨rfl, rfl, rfl, by decide +kernel, rfl, by decide +kernel, by decide +kernel⟩
theorem sc_law_dice : FnScope ["cell"] ["cell"] (defScope s_law_dice) := ⟨rfl, rfl, rfl, by decide +kernel, rfl, by decide +kernel, by decide +kernel⟩
theorem sc_law_roll : FnScope ["dice", "many", "found"] ["dice", "many"] (defScope s_law_roll) := ⟨rfl, rfl, rfl, by decide +kernel, rfl, by decide +kernel, by decide +kernel⟩
theorem sc_law_rounds : FnScope ["script", "most", "cells", "cell"] ["script", "most"] (defScope s_law_rounds) := ⟨rfl, rfl, rfl, by decide +kernel, rfl, by decide +kernel, by decide +kernel⟩
theorem sc_law_markup : FnScope ["dice", "deep", "names", "found", "k", "mark", "tag", "more", "inner"] ["dice", "deep", "names"] (defScope s_law_markup) := ⟨rfl, rfl, rfl, by decide +kernel, rfl, by decide +kernel, by decide +kernel⟩
theorem sc_law_role : FnScope ["tag", "rows", "told"] ["tag", "rows"] (defScope s_law_role) := ⟨rfl, rfl, rfl, by decide +kernel, rfl, by decide +kernel, by decide +kernel⟩
theorem sc_law_words : FnScope ["tree", "child"] ["tree"] (defScope s_law_words) := ⟨rfl, rfl, rfl, by decide +kernel, rfl, by decide +kernel, by decide +kernel⟩
theorem sc_law_every : FnScope ["tree", "above", "found", "child"] ["tree", "above"] (defScope s_law_every) := ⟨rfl, rfl, rfl, by decide +kernel, rfl, by decide +kernel, by decide +kernel⟩
theorem sc_law_name : FnScope ["tree", "every", "rows", "told", "others", "name", "labels", "one", "above"] ["tree", "every"] (defScope s_law_name) := ⟨rfl, rfl, rfl, by decide +kernel, rfl, by decide +kernel, by decide +kernel⟩
theorem sc_law_order : FnScope ["rows", "text", "digits", "sign"] ["rows"] (defScope s_law_order) := ⟨rfl, rfl, rfl, by decide +kernel, rfl, by decide +kernel, by decide +kernel⟩
theorem sc_law : FnScope ["script", "dice", "document", "every", "nodes", "due", "focus", "heads", "gaps", "before", "tree", "above", "node", "rows", "role", "hidden", "labels", "order", "level", "page", "one", "more", "row", "number"] ["script"] (defScope s_law) := ⟨rfl, rfl, rfl, by decide +kernel, rfl, by decide +kernel, by decide +kernel⟩
abbrev sl_name_of : List Str := ["node", "document", "told", "other", "name"]
abbrev sl_outline : List Str := ["document", "found", "node", "above", "one"]
abbrev sl_focus_order : List Str := ["document", "rows", "node", "told", "order", "place", "number"]
abbrev sl_order_told : List Str := ["node", "text", "digits", "sign"]
abbrev sl_Node_levels_below : List Str := ["self", "level", "found", "node", "child"]
abbrev sl_Node_content : List Str := ["self", "node"]
abbrev sl_Node_shown : List Str := ["self", "rows", "child"]
abbrev sl_Document_place_before : List Str := ["self", "parent", "child", "place", "before", "node"]
abbrev sl_TreeBuilder_end_tag : List Str := ["self", "tag", "places", "place", "node"]
abbrev sl_law_rounds : List Str := ["script", "most", "cells", "cell"]
abbrev sl_law_markup : List Str := ["dice", "deep", "names", "found", "k", "mark", "tag", "more", "inner"]
abbrev sl_law_words : List Str := ["tree", "child"]
abbrev sl_law_name : List Str := ["tree", "every", "rows", "told", "others", "name", "labels", "one", "above"]
abbrev sl_law_order : List Str := ["rows", "text", "digits", "sign"]
abbrev sl_law : List Str := ["script", "dice", "document", "every", "nodes", "due", "focus", "heads", "gaps", "before", "tree", "above", "node", "rows", "role", "hidden", "labels", "order", "level", "page", "one", "more", "row", "number"]
def d_wall : He.DefD := ⟨("_wall", none), "_wall", "_wall", defArgs s_wall, defBody s_wall, defScope s_wall, [], []⟩
def d_role_of : He.DefD := ⟨("role_of", none), "role_of", "role_of", defArgs s_role_of, defBody s_role_of, defScope s_role_of, [], []⟩
def d_is_left_out : He.DefD := ⟨("is_left_out", none), "is_left_out", "is_left_out", defArgs s_is_left_out, defBody s_is_left_out, defScope s_is_left_out, [], []⟩
def d_name_of : He.DefD := ⟨("name_of", none), "name_of", "name_of", defArgs s_name_of, defBody s_name_of, defScope s_name_of, [], []⟩
def d_label_for : He.DefD := ⟨("label_for", none), "label_for", "label_for", defArgs s_label_for, defBody s_label_for, defScope s_label_for, [], []⟩
def d_outline : He.DefD := ⟨("outline", none), "outline", "outline", defArgs s_outline, defBody s_outline, defScope s_outline, [], []⟩
def d_focus_order : He.DefD := ⟨("focus_order", none), "focus_order", "focus_order", defArgs s_focus_order, defBody s_focus_order, defScope s_focus_order, [], []⟩
def d_order_told : He.DefD := ⟨("order_told", none), "order_told", "order_told", defArgs s_order_told, defBody s_order_told, defScope s_order_told, [], []⟩
def d_headings : He.DefD := ⟨("headings", none), "headings", "headings", defArgs s_headings, defBody s_headings, defScope s_headings, [], []⟩
def d_Node_init : He.DefD := ⟨("Node", some "__init__"), "__init__", "Node.__init__", defArgs s_Node_init, defBody s_Node_init, defScope s_Node_init, [.str ""], []⟩
def d_Node_is_text : He.DefD := ⟨("Node", some "is_text"), "is_text", "Node.is_text", defArgs s_Node_is_text, defBody s_Node_is_text, defScope s_Node_is_text, [], []⟩
def d_Node_attribute : He.DefD := ⟨("Node", some "attribute"), "attribute", "Node.attribute", defArgs s_Node_attribute, defBody s_Node_attribute, defScope s_Node_attribute, [], []⟩
def d_Node_class_words : He.DefD := ⟨("Node", some "class_words"), "class_words", "Node.class_words", defArgs s_Node_class_words, defBody s_Node_class_words, defScope s_Node_class_words, [], []⟩
def d_Node_element_children : He.DefD := ⟨("Node", some "element_children"), "element_children", "Node.element_children", defArgs s_Node_element_children, defBody s_Node_element_children, defScope s_Node_element_children, [], []⟩
def d_Node_place_in : He.DefD := ⟨("Node", some "place_in"), "place_in", "Node.place_in", defArgs s_Node_place_in, defBody s_Node_place_in, defScope s_Node_place_in, [], []⟩
def d_Node_path : He.DefD := ⟨("Node", some "path"), "path", "Node.path", defArgs s_Node_path, defBody s_Node_path, defScope s_Node_path, [], []⟩
def d_Node_levels_below : He.DefD := ⟨("Node", some "levels_below"), "levels_below", "Node.levels_below", defArgs s_Node_levels_below, defBody s_Node_levels_below, defScope s_Node_levels_below, [], []⟩
def d_Node_all_nodes : He.DefD := ⟨("Node", some "all_nodes"), "all_nodes", "Node.all_nodes", defArgs s_Node_all_nodes, defBody s_Node_all_nodes, defScope s_Node_all_nodes, [], []⟩
def d_Node_content : He.DefD := ⟨("Node", some "content"), "content", "Node.content", defArgs s_Node_content, defBody s_Node_content, defScope s_Node_content, [], []⟩
def d_Node_shown : He.DefD := ⟨("Node", some "shown"), "shown", "Node.shown", defArgs s_Node_shown, defBody s_Node_shown, defScope s_Node_shown, [], []⟩
def d_Document_init : He.DefD := ⟨("Document", some "__init__"), "__init__", "Document.__init__", defArgs s_Document_init, defBody s_Document_init, defScope s_Document_init, [], []⟩
def d_Document_make : He.DefD := ⟨("Document", some "make"), "make", "Document.make", defArgs s_Document_make, defBody s_Document_make, defScope s_Document_make, [.str ""], []⟩
def d_Document_node_of : He.DefD := ⟨("Document", some "node_of"), "node_of", "Document.node_of", defArgs s_Document_node_of, defBody s_Document_node_of, defScope s_Document_node_of, [], []⟩
def d_Document_append : He.DefD := ⟨("Document", some "append"), "append", "Document.append", defArgs s_Document_append, defBody s_Document_append, defScope s_Document_append, [], []⟩
def d_Document_place_before : He.DefD := ⟨("Document", some "place_before"), "place_before", "Document.place_before", defArgs s_Document_place_before, defBody s_Document_place_before, defScope s_Document_place_before, [], []⟩
def d_Document_remove : He.DefD := ⟨("Document", some "remove"), "remove", "Document.remove", defArgs s_Document_remove, defBody s_Document_remove, defScope s_Document_remove, [], []⟩
def d_Document_set_attribute : He.DefD := ⟨("Document", some "set_attribute"), "set_attribute", "Document.set_attribute", defArgs s_Document_set_attribute, defBody s_Document_set_attribute, defScope s_Document_set_attribute, [], []⟩
def d_Document_set_text : He.DefD := ⟨("Document", some "set_text"), "set_text", "Document.set_text", defArgs s_Document_set_text, defBody s_Document_set_text, defScope s_Document_set_text, [], []⟩
def d_Document_by_id : He.DefD := ⟨("Document", some "by_id"), "by_id", "Document.by_id", defArgs s_Document_by_id, defBody s_Document_by_id, defScope s_Document_by_id, [], []⟩
def d_Scanner_init : He.DefD := ⟨("Scanner", some "__init__"), "__init__", "Scanner.__init__", defArgs s_Scanner_init, defBody s_Scanner_init, defScope s_Scanner_init, [], []⟩
def d_Scanner_here : He.DefD := ⟨("Scanner", some "here"), "here", "Scanner.here", defArgs s_Scanner_here, defBody s_Scanner_here, defScope s_Scanner_here, [.int (1)], []⟩
def d_Scanner_skip_blanks : He.DefD := ⟨("Scanner", some "skip_blanks"), "skip_blanks", "Scanner.skip_blanks", defArgs s_Scanner_skip_blanks, defBody s_Scanner_skip_blanks, defScope s_Scanner_skip_blanks, [], []⟩
def d_Scanner_read_name : He.DefD := ⟨("Scanner", some "read_name"), "read_name", "Scanner.read_name", defArgs s_Scanner_read_name, defBody s_Scanner_read_name, defScope s_Scanner_read_name, [], []⟩
def d_Scanner_up_to : He.DefD := ⟨("Scanner", some "up_to"), "up_to", "Scanner.up_to", defArgs s_Scanner_up_to, defBody s_Scanner_up_to, defScope s_Scanner_up_to, [], []⟩
def d_with_entities : He.DefD := ⟨("with_entities", none), "with_entities", "with_entities", defArgs s_with_entities, defBody s_with_entities, defScope s_with_entities, [], []⟩
def d_TreeBuilder_init : He.DefD := ⟨("TreeBuilder", some "__init__"), "__init__", "TreeBuilder.__init__", defArgs s_TreeBuilder_init, defBody s_TreeBuilder_init, defScope s_TreeBuilder_init, [], []⟩
def d_TreeBuilder_build : He.DefD := ⟨("TreeBuilder", some "build"), "build", "TreeBuilder.build", defArgs s_TreeBuilder_build, defBody s_TreeBuilder_build, defScope s_TreeBuilder_build, [], []⟩
def d_TreeBuilder_text_run : He.DefD := ⟨("TreeBuilder", some "text_run"), "text_run", "TreeBuilder.text_run", defArgs s_TreeBuilder_text_run, defBody s_TreeBuilder_text_run, defScope s_TreeBuilder_text_run, [], []⟩
def d_TreeBuilder_start_tag : He.DefD := ⟨("TreeBuilder", some "start_tag"), "start_tag", "TreeBuilder.start_tag", defArgs s_TreeBuilder_start_tag, defBody s_TreeBuilder_start_tag, defScope s_TreeBuilder_start_tag, [], []⟩
def d_TreeBuilder_close_before : He.DefD := ⟨("TreeBuilder", some "close_before"), "close_before", "TreeBuilder.close_before", defArgs s_TreeBuilder_close_before, defBody s_TreeBuilder_close_before, defScope s_TreeBuilder_close_before, [], []⟩
def d_TreeBuilder_read_attributes : He.DefD := ⟨("TreeBuilder", some "read_attributes"), "read_attributes", "TreeBuilder.read_attributes", defArgs s_TreeBuilder_read_attributes, defBody s_TreeBuilder_read_attributes, defScope s_TreeBuilder_read_attributes, [], []⟩
def d_TreeBuilder_end_tag : He.DefD := ⟨("TreeBuilder", some "end_tag"), "end_tag", "TreeBuilder.end_tag", defArgs s_TreeBuilder_end_tag, defBody s_TreeBuilder_end_tag, defScope s_TreeBuilder_end_tag, [], []⟩
def d_start_state : He.DefD := ⟨("start_state", none), "start_state", "start_state", defArgs s_start_state, defBody s_start_state, defScope s_start_state, [], []⟩
def d_parse_markup : He.DefD := ⟨("parse_markup", none), "parse_markup", "parse_markup", defArgs s_parse_markup, defBody s_parse_markup, defScope s_parse_markup, [], []⟩
def d_law_dice : He.DefD := ⟨("_law_dice", none), "_law_dice", "_law_dice", defArgs s_law_dice, defBody s_law_dice, defScope s_law_dice, [], []⟩
def d_law_roll : He.DefD := ⟨("_law_roll", none), "_law_roll", "_law_roll", defArgs s_law_roll, defBody s_law_roll, defScope s_law_roll, [], []⟩
def d_law_rounds : He.DefD := ⟨("_law_rounds", none), "_law_rounds", "_law_rounds", defArgs s_law_rounds, defBody s_law_rounds, defScope s_law_rounds, [], []⟩
def d_law_markup : He.DefD := ⟨("_law_markup", none), "_law_markup", "_law_markup", defArgs s_law_markup, defBody s_law_markup, defScope s_law_markup, [], []⟩
def d_law_role : He.DefD := ⟨("_law_role", none), "_law_role", "_law_role", defArgs s_law_role, defBody s_law_role, defScope s_law_role, [], []⟩
def d_law_words : He.DefD := ⟨("_law_words", none), "_law_words", "_law_words", defArgs s_law_words, defBody s_law_words, defScope s_law_words, [], []⟩
def d_law_every : He.DefD := ⟨("_law_every", none), "_law_every", "_law_every", defArgs s_law_every, defBody s_law_every, defScope s_law_every, [], []⟩
def d_law_name : He.DefD := ⟨("_law_name", none), "_law_name", "_law_name", defArgs s_law_name, defBody s_law_name, defScope s_law_name, [], []⟩
def d_law_order : He.DefD := ⟨("_law_order", none), "_law_order", "_law_order", defArgs s_law_order, defBody s_law_order, defScope s_law_order, [], []⟩
def d_law : He.DefD := ⟨("law", none), "law", "law", defArgs s_law, defBody s_law, defScope s_law, [], []⟩
def fn : List He.DefD := [d_wall, d_role_of, d_is_left_out, d_name_of, d_label_for, d_outline, d_focus_order, d_order_told, d_headings, d_Node_init, d_Node_is_text, d_Node_attribute, d_Node_class_words, d_Node_element_children, d_Node_place_in, d_Node_path, d_Node_levels_below, d_Node_all_nodes, d_Node_content, d_Node_shown, d_Document_init, d_Document_make, d_Document_node_of, d_Document_append, d_Document_place_before, d_Document_remove, d_Document_set_attribute, d_Document_set_text, d_Document_by_id, d_Scanner_init, d_Scanner_here, d_Scanner_skip_blanks, d_Scanner_read_name, d_Scanner_up_to, d_with_entities, d_TreeBuilder_init, d_TreeBuilder_build, d_TreeBuilder_text_run, d_TreeBuilder_start_tag, d_TreeBuilder_close_before, d_TreeBuilder_read_attributes, d_TreeBuilder_end_tag, d_start_state, d_parse_markup, d_law_dice, d_law_roll, d_law_rounds, d_law_markup, d_law_role, d_law_words, d_law_every, d_law_name, d_law_order, d_law]
def fa : List He.Fa := [.glo "_wall", .glo "ROLES", .glo "FOCUS", .glo "role_of", .glo "is_left_out", .glo "name_of", .glo "label_for", .glo "outline", .glo "focus_order", .glo "order_told", .glo "headings", .glo "PageError", .glo "MarkupError", .glo "TreeError", .glo "VOID", .glo "BLOCKS", .glo "Node", .glo "Document", .glo "ENTITIES", .glo "RAW", .glo "Scanner", .glo "with_entities", .glo "TreeBuilder", .glo "start_state", .glo "parse_markup", .glo "_law_dice", .glo "_law_roll", .glo "_law_rounds", .glo "_law_markup", .glo "_law_role", .glo "_law_words", .glo "_law_every", .glo "_law_name", .glo "_law_order", .glo "law", .int "MOST_LEVELS" (100), .str "TAG_SIGNS" "abcdefghijklmnopqrstuvwxyz0123456789-", .int "MOST_DEEP" (60), .free "tuple", .free "len", .free "sorted", .free "any", .free "int", .free "enumerate", .free "abs", .free "range", .free "str", .free "isinstance", .free "dict", .free "zip", .free "list", .exc "PageError", .keep "PageError", .exc "MarkupError", .keep "MarkupError", .exc "TreeError", .keep "TreeError", .cls "Node", .noat "Node" "number", .noat "Node" "tag", .noat "Node" "text", .noat "Node" "attributes", .noat "Node" "children", .noat "Node" "parent", .noat "Node" "value", .noat "Node" "checked", .mkr "Node", .meth "Node" "is_text", .meth "Node" "attribute", .meth "Node" "class_words", .meth "Node" "element_children", .meth "Node" "place_in", .meth "Node" "path", .meth "Node" "levels_below", .meth "Node" "all_nodes", .meth "Node" "content", .meth "Node" "shown", .cls "Document", .noat "Document" "nodes", .noat "Document" "next_number", .noat "Document" "root", .noat "Document" "version", .mkr "Document", .meth "Document" "make", .meth "Document" "node_of", .meth "Document" "append", .meth "Document" "place_before", .meth "Document" "remove", .meth "Document" "set_attribute", .meth "Document" "set_text", .meth "Document" "by_id", .cls "Scanner", .noat "Scanner" "text", .noat "Scanner" "place", .mkr "Scanner", .meth "Scanner" "here", .meth "Scanner" "skip_blanks", .meth "Scanner" "read_name", .meth "Scanner" "up_to", .cls "TreeBuilder", .noat "TreeBuilder" "scanner", .noat "TreeBuilder" "document", .noat "TreeBuilder" "open_nodes", .mkr "TreeBuilder", .meth "TreeBuilder" "build", .meth "TreeBuilder" "text_run", .meth "TreeBuilder" "start_tag", .meth "TreeBuilder" "close_before", .meth "TreeBuilder" "read_attributes", .meth "TreeBuilder" "end_tag"]
def entD : List (Str × He.Dv) := [("lt", .str "<"), ("gt", .str ">"), ("amp", .str "&"), ("quot", .str "\"")]
def rolesD : List (Str × He.Dv) := [("a", .str "link"), ("button", .str "button"), ("img", .str "image"), ("li", .str "item"), ("ul", .str "list"), ("ol", .str "list"), ("form", .str "form"), ("main", .str "main"), ("section", .str "part"), ("h1", .str "heading"), ("h2", .str "heading"), ("p", .str "text")]
def tf : List He.Defn := [("Document", some "place_before"), ("Node", some "shown"), ("focus_order", none), ("order_told", none)]
def ts : List He.Tab := [((fun K => He.ga K "ENTITIES"), ["lt", "gt", "amp", "quot"]), ((fun K => He.ga K "ROLES"), ["a", "button", "img", "li", "ul", "ol", "form", "main", "section", "h1", "h2", "p"])]
def exB : PySem.W.Frag → Bool := fun K => (He.tupB K "VOID" [.str "br", .str "hr", .str "img", .str "input", .str "meta", .str "link"] && He.tupB K "BLOCKS" [.str "html", .str "body", .str "div", .str "p", .str "ul", .str "ol", .str "li", .str "h1", .str "h2", .str "section", .str "form", .str "hr", .str "pre", .str "main"] && He.tupB K "RAW" [.str "script", .str "style"] && He.tupB K "FOCUS" [.str "link", .str "button", .str "field", .str "mark"]) && (decide ([(He.cT K ("Document", some "place_before")).2, (He.cT K ("Node", some "shown")).2, (He.cT K ("focus_order", none)).2, (He.cT K ("order_told", none)).2].Nodup) && (He.valsB K (He.ga K "ENTITIES") entD && He.valsB K (He.ga K "ROLES") rolesD))
abbrev R : PySem.W.OpenRow := PySem.W.OpenLaw.row PySem.Challenge.rw_pagestack_k19_what_a_page_says
abbrev hk : PySem.W.Hook := He.hookX 6 fa fn ts tf exB
def ob (s : PySem.W.SharedT) : He.AlX := He.obsX 6 fa fn ts tf exB (HandSHeadRun.getT s)
theorem ob_eq (s : PySem.W.SharedT) : ob s = hk.obs s.abs := He.obsX_eq (HandSHeadRun.getT_eq s)
def looseN : List PySem.Str := (("_wall" : Str) :: ("ROLES" : Str) :: ("FOCUS" : Str) :: ("role_of" : Str) :: ("is_left_out" : Str) :: ("name_of" : Str) :: ("label_for" : Str) :: ("outline" : Str) :: ("focus_order" : Str) :: ("order_told" : Str) :: ("headings" : Str) :: ("PageError" : Str) :: ("MarkupError" : Str) :: ("TreeError" : Str) :: ("VOID" : Str) :: ("BLOCKS" : Str) :: ("MOST_LEVELS" : Str) :: ("Node" : Str) :: ("Document" : Str) :: ("TAG_SIGNS" : Str) :: ("ENTITIES" : Str) :: ("RAW" : Str) :: ("MOST_DEEP" : Str) :: ("Scanner" : Str) :: ("with_entities" : Str) :: ("TreeBuilder" : Str) :: ("start_state" : Str) :: ("parse_markup" : Str) :: ("_law_dice" : Str) :: ("_law_roll" : Str) :: ("_law_rounds" : Str) :: ("_law_markup" : Str) :: ("_law_role" : Str) :: ("_law_words" : Str) :: ("_law_every" : Str) :: ("_law_name" : Str) :: ("_law_order" : Str) :: [])
theorem runF (w : World) : HandSHeadRun.RunEq R (PySem.W.view R.prog [42]) hk ob 20000 looseN (Dn.ftW [("special-get-raises", false)] w) := by
  intro os
  kernel_rfl
theorem runT (w : World) : HandSHeadRun.RunEq R (PySem.W.view R.prog [42]) hk ob 20000 looseN (Dn.ftW [("special-get-raises", true)] w) := by
  intro os
  kernel_rfl
theorem runB (w : World) (b : Bool) : HandSHeadRun.RunEq R (PySem.W.view R.prog [42]) hk ob 20000 looseN (Dn.ftW [("special-get-raises", b)] w) := by
  cases b
  · exact runF w
  · exact runT w
theorem run (w : World) : HandSHeadRun.RunEq R (PySem.W.view R.prog [42]) hk ob 20000 looseN w := by
  have e := Dn.ftW_eq (w := w) (L := [("special-get-raises", w.params.followText "special-get-raises")]) (by simp)
  rw [← e]
  exact runB w _
structure Tx (K : PySem.W.Frag) (mg : Str → Option Value) : Prop where
  g__wall : mg "_wall" = some (.ref (He.ga K "_wall"))
  g_ROLES : mg "ROLES" = some (.ref (He.ga K "ROLES"))
  g_FOCUS : mg "FOCUS" = some (.ref (He.ga K "FOCUS"))
  g_role_of : mg "role_of" = some (.ref (He.ga K "role_of"))
  g_is_left_out : mg "is_left_out" = some (.ref (He.ga K "is_left_out"))
  g_name_of : mg "name_of" = some (.ref (He.ga K "name_of"))
  g_label_for : mg "label_for" = some (.ref (He.ga K "label_for"))
  g_outline : mg "outline" = some (.ref (He.ga K "outline"))
  g_focus_order : mg "focus_order" = some (.ref (He.ga K "focus_order"))
  g_order_told : mg "order_told" = some (.ref (He.ga K "order_told"))
  g_headings : mg "headings" = some (.ref (He.ga K "headings"))
  g_PageError : mg "PageError" = some (.ref (He.ga K "PageError"))
  g_MarkupError : mg "MarkupError" = some (.ref (He.ga K "MarkupError"))
  g_TreeError : mg "TreeError" = some (.ref (He.ga K "TreeError"))
  g_VOID : mg "VOID" = some (.ref (He.ga K "VOID"))
  g_BLOCKS : mg "BLOCKS" = some (.ref (He.ga K "BLOCKS"))
  g_Node : mg "Node" = some (.ref (He.ga K "Node"))
  g_Document : mg "Document" = some (.ref (He.ga K "Document"))
  g_ENTITIES : mg "ENTITIES" = some (.ref (He.ga K "ENTITIES"))
  g_RAW : mg "RAW" = some (.ref (He.ga K "RAW"))
  g_Scanner : mg "Scanner" = some (.ref (He.ga K "Scanner"))
  g_with_entities : mg "with_entities" = some (.ref (He.ga K "with_entities"))
  g_TreeBuilder : mg "TreeBuilder" = some (.ref (He.ga K "TreeBuilder"))
  g_start_state : mg "start_state" = some (.ref (He.ga K "start_state"))
  g_parse_markup : mg "parse_markup" = some (.ref (He.ga K "parse_markup"))
  g__law_dice : mg "_law_dice" = some (.ref (He.ga K "_law_dice"))
  g__law_roll : mg "_law_roll" = some (.ref (He.ga K "_law_roll"))
  g__law_rounds : mg "_law_rounds" = some (.ref (He.ga K "_law_rounds"))
  g__law_markup : mg "_law_markup" = some (.ref (He.ga K "_law_markup"))
  g__law_role : mg "_law_role" = some (.ref (He.ga K "_law_role"))
  g__law_words : mg "_law_words" = some (.ref (He.ga K "_law_words"))
  g__law_every : mg "_law_every" = some (.ref (He.ga K "_law_every"))
  g__law_name : mg "_law_name" = some (.ref (He.ga K "_law_name"))
  g__law_order : mg "_law_order" = some (.ref (He.ga K "_law_order"))
  g_law : mg "law" = some (.ref (He.ga K "law"))
  g_MOST_LEVELS : ∃ u, mg "MOST_LEVELS" = some u ∧ RelV (.int (100)) u
  g_TAG_SIGNS : ∃ u, mg "TAG_SIGNS" = some u ∧ RelV (.str "abcdefghijklmnopqrstuvwxyz0123456789-") u
  g_MOST_DEEP : ∃ u, mg "MOST_DEEP" = some u ∧ RelV (.int (60)) u
  b_tuple : mg "tuple" = none
  b_len : mg "len" = none
  b_sorted : mg "sorted" = none
  b_any : mg "any" = none
  b_int : mg "int" = none
  b_enumerate : mg "enumerate" = none
  b_abs : mg "abs" = none
  b_range : mg "range" = none
  b_str : mg "str" = none
  b_isinstance : mg "isinstance" = none
  b_dict : mg "dict" = none
  b_zip : mg "zip" = none
  b_list : mg "list" = none
  x_PageError : PySem.W.excIn K (He.ga K "PageError") He.veBase "ValueError.__new__" = true ∧ PySem.W.keepIn K (.ref (He.ga K "PageError")) = true ∧ PySem.W.subIn K (.ref (He.ga K "PageError")) (.type "BaseException") = some true ∧ PySem.W.typeIn K (.ref (He.ga K "PageError")) = some (.type "type")
  x_MarkupError : PySem.W.excIn K (He.ga K "MarkupError") He.veBase "ValueError.__new__" = true ∧ PySem.W.keepIn K (.ref (He.ga K "MarkupError")) = true ∧ PySem.W.subIn K (.ref (He.ga K "MarkupError")) (.type "BaseException") = some true ∧ PySem.W.typeIn K (.ref (He.ga K "MarkupError")) = some (.type "type")
  x_TreeError : PySem.W.excIn K (He.ga K "TreeError") He.veBase "ValueError.__new__" = true ∧ PySem.W.keepIn K (.ref (He.ga K "TreeError")) = true ∧ PySem.W.subIn K (.ref (He.ga K "TreeError")) (.type "BaseException") = some true ∧ PySem.W.typeIn K (.ref (He.ga K "TreeError")) = some (.type "type")
  cl_Node : Cls K (He.ga K "Node")
  no_Node_number : NoAttr K (He.ga K "Node") "number"
  no_Node_tag : NoAttr K (He.ga K "Node") "tag"
  no_Node_text : NoAttr K (He.ga K "Node") "text"
  no_Node_attributes : NoAttr K (He.ga K "Node") "attributes"
  no_Node_children : NoAttr K (He.ga K "Node") "children"
  no_Node_parent : NoAttr K (He.ga K "Node") "parent"
  no_Node_value : NoAttr K (He.ga K "Node") "value"
  no_Node_checked : NoAttr K (He.ga K "Node") "checked"
  mk_Node : Mk K (He.ga K "Node") (He.ma K (He.ga K "Node") "__init__")
  me_Node_is_text : Meth K (He.ga K "Node") "is_text" (He.ma K (He.ga K "Node") "is_text")
  me_Node_attribute : Meth K (He.ga K "Node") "attribute" (He.ma K (He.ga K "Node") "attribute")
  me_Node_class_words : Meth K (He.ga K "Node") "class_words" (He.ma K (He.ga K "Node") "class_words")
  me_Node_element_children : Meth K (He.ga K "Node") "element_children" (He.ma K (He.ga K "Node") "element_children")
  me_Node_place_in : Meth K (He.ga K "Node") "place_in" (He.ma K (He.ga K "Node") "place_in")
  me_Node_path : Meth K (He.ga K "Node") "path" (He.ma K (He.ga K "Node") "path")
  me_Node_levels_below : Meth K (He.ga K "Node") "levels_below" (He.ma K (He.ga K "Node") "levels_below")
  me_Node_all_nodes : Meth K (He.ga K "Node") "all_nodes" (He.ma K (He.ga K "Node") "all_nodes")
  me_Node_content : Meth K (He.ga K "Node") "content" (He.ma K (He.ga K "Node") "content")
  me_Node_shown : Meth K (He.ga K "Node") "shown" (He.ma K (He.ga K "Node") "shown")
  cl_Document : Cls K (He.ga K "Document")
  no_Document_nodes : NoAttr K (He.ga K "Document") "nodes"
  no_Document_next_number : NoAttr K (He.ga K "Document") "next_number"
  no_Document_root : NoAttr K (He.ga K "Document") "root"
  no_Document_version : NoAttr K (He.ga K "Document") "version"
  mk_Document : Mk K (He.ga K "Document") (He.ma K (He.ga K "Document") "__init__")
  me_Document_make : Meth K (He.ga K "Document") "make" (He.ma K (He.ga K "Document") "make")
  me_Document_node_of : Meth K (He.ga K "Document") "node_of" (He.ma K (He.ga K "Document") "node_of")
  me_Document_append : Meth K (He.ga K "Document") "append" (He.ma K (He.ga K "Document") "append")
  me_Document_place_before : Meth K (He.ga K "Document") "place_before" (He.ma K (He.ga K "Document") "place_before")
  me_Document_remove : Meth K (He.ga K "Document") "remove" (He.ma K (He.ga K "Document") "remove")
  me_Document_set_attribute : Meth K (He.ga K "Document") "set_attribute" (He.ma K (He.ga K "Document") "set_attribute")
  me_Document_set_text : Meth K (He.ga K "Document") "set_text" (He.ma K (He.ga K "Document") "set_text")
  me_Document_by_id : Meth K (He.ga K "Document") "by_id" (He.ma K (He.ga K "Document") "by_id")
  cl_Scanner : Cls K (He.ga K "Scanner")
  no_Scanner_text : NoAttr K (He.ga K "Scanner") "text"
  no_Scanner_place : NoAttr K (He.ga K "Scanner") "place"
  mk_Scanner : Mk K (He.ga K "Scanner") (He.ma K (He.ga K "Scanner") "__init__")
  me_Scanner_here : Meth K (He.ga K "Scanner") "here" (He.ma K (He.ga K "Scanner") "here")
  me_Scanner_skip_blanks : Meth K (He.ga K "Scanner") "skip_blanks" (He.ma K (He.ga K "Scanner") "skip_blanks")
  me_Scanner_read_name : Meth K (He.ga K "Scanner") "read_name" (He.ma K (He.ga K "Scanner") "read_name")
  me_Scanner_up_to : Meth K (He.ga K "Scanner") "up_to" (He.ma K (He.ga K "Scanner") "up_to")
  cl_TreeBuilder : Cls K (He.ga K "TreeBuilder")
  no_TreeBuilder_scanner : NoAttr K (He.ga K "TreeBuilder") "scanner"
  no_TreeBuilder_document : NoAttr K (He.ga K "TreeBuilder") "document"
  no_TreeBuilder_open_nodes : NoAttr K (He.ga K "TreeBuilder") "open_nodes"
  mk_TreeBuilder : Mk K (He.ga K "TreeBuilder") (He.ma K (He.ga K "TreeBuilder") "__init__")
  me_TreeBuilder_build : Meth K (He.ga K "TreeBuilder") "build" (He.ma K (He.ga K "TreeBuilder") "build")
  me_TreeBuilder_text_run : Meth K (He.ga K "TreeBuilder") "text_run" (He.ma K (He.ga K "TreeBuilder") "text_run")
  me_TreeBuilder_start_tag : Meth K (He.ga K "TreeBuilder") "start_tag" (He.ma K (He.ga K "TreeBuilder") "start_tag")
  me_TreeBuilder_close_before : Meth K (He.ga K "TreeBuilder") "close_before" (He.ma K (He.ga K "TreeBuilder") "close_before")
  me_TreeBuilder_read_attributes : Meth K (He.ga K "TreeBuilder") "read_attributes" (He.ma K (He.ga K "TreeBuilder") "read_attributes")
  me_TreeBuilder_end_tag : Meth K (He.ga K "TreeBuilder") "end_tag" (He.ma K (He.ga K "TreeBuilder") "end_tag")
  t_VOID : ∀ H, SqT K H (He.ga K "VOID") (List.map (He.Dv.v K) [.str "br", .str "hr", .str "img", .str "input", .str "meta", .str "link"])
  t_BLOCKS : ∀ H, SqT K H (He.ga K "BLOCKS") (List.map (He.Dv.v K) [.str "html", .str "body", .str "div", .str "p", .str "ul", .str "ol", .str "li", .str "h1", .str "h2", .str "section", .str "form", .str "hr", .str "pre", .str "main"])
  t_RAW : ∀ H, SqT K H (He.ga K "RAW") (List.map (He.Dv.v K) [.str "script", .str "style"])
  t_FOCUS : ∀ H, SqT K H (He.ga K "FOCUS") (List.map (He.Dv.v K) [.str "link", .str "button", .str "field", .str "mark"])
theorem tx_of {K : PySem.W.Frag} {h : Heap} {mg : Str → Option Value} (X : K.In h) (G : h.Ns mainGlobals mg) (c : He.SaysD fa fn K) (ex : exB K = true) : Tx K mg := by
  have zz : exB K = true := ex
  unfold exB at zz
  simp only [Bool.and_eq_true] at zz
  obtain ⟨⟨⟨⟨z0, z1⟩, z2⟩, z3⟩, _⟩ := zz
  exact {
    g__wall := He.glo_ok X G (c.fact 0 (f := .glo "_wall") rfl)
    g_ROLES := He.glo_ok X G (c.fact 1 (f := .glo "ROLES") rfl)
    g_FOCUS := He.glo_ok X G (c.fact 2 (f := .glo "FOCUS") rfl)
    g_role_of := He.glo_ok X G (c.fact 3 (f := .glo "role_of") rfl)
    g_is_left_out := He.glo_ok X G (c.fact 4 (f := .glo "is_left_out") rfl)
    g_name_of := He.glo_ok X G (c.fact 5 (f := .glo "name_of") rfl)
    g_label_for := He.glo_ok X G (c.fact 6 (f := .glo "label_for") rfl)
    g_outline := He.glo_ok X G (c.fact 7 (f := .glo "outline") rfl)
    g_focus_order := He.glo_ok X G (c.fact 8 (f := .glo "focus_order") rfl)
    g_order_told := He.glo_ok X G (c.fact 9 (f := .glo "order_told") rfl)
    g_headings := He.glo_ok X G (c.fact 10 (f := .glo "headings") rfl)
    g_PageError := He.glo_ok X G (c.fact 11 (f := .glo "PageError") rfl)
    g_MarkupError := He.glo_ok X G (c.fact 12 (f := .glo "MarkupError") rfl)
    g_TreeError := He.glo_ok X G (c.fact 13 (f := .glo "TreeError") rfl)
    g_VOID := He.glo_ok X G (c.fact 14 (f := .glo "VOID") rfl)
    g_BLOCKS := He.glo_ok X G (c.fact 15 (f := .glo "BLOCKS") rfl)
    g_Node := He.glo_ok X G (c.fact 16 (f := .glo "Node") rfl)
    g_Document := He.glo_ok X G (c.fact 17 (f := .glo "Document") rfl)
    g_ENTITIES := He.glo_ok X G (c.fact 18 (f := .glo "ENTITIES") rfl)
    g_RAW := He.glo_ok X G (c.fact 19 (f := .glo "RAW") rfl)
    g_Scanner := He.glo_ok X G (c.fact 20 (f := .glo "Scanner") rfl)
    g_with_entities := He.glo_ok X G (c.fact 21 (f := .glo "with_entities") rfl)
    g_TreeBuilder := He.glo_ok X G (c.fact 22 (f := .glo "TreeBuilder") rfl)
    g_start_state := He.glo_ok X G (c.fact 23 (f := .glo "start_state") rfl)
    g_parse_markup := He.glo_ok X G (c.fact 24 (f := .glo "parse_markup") rfl)
    g__law_dice := He.glo_ok X G (c.fact 25 (f := .glo "_law_dice") rfl)
    g__law_roll := He.glo_ok X G (c.fact 26 (f := .glo "_law_roll") rfl)
    g__law_rounds := He.glo_ok X G (c.fact 27 (f := .glo "_law_rounds") rfl)
    g__law_markup := He.glo_ok X G (c.fact 28 (f := .glo "_law_markup") rfl)
    g__law_role := He.glo_ok X G (c.fact 29 (f := .glo "_law_role") rfl)
    g__law_words := He.glo_ok X G (c.fact 30 (f := .glo "_law_words") rfl)
    g__law_every := He.glo_ok X G (c.fact 31 (f := .glo "_law_every") rfl)
    g__law_name := He.glo_ok X G (c.fact 32 (f := .glo "_law_name") rfl)
    g__law_order := He.glo_ok X G (c.fact 33 (f := .glo "_law_order") rfl)
    g_law := He.glo_ok X G (c.fact 34 (f := .glo "law") rfl)
    g_MOST_LEVELS := let ⟨t, e⟩ := He.int_ok X G (c.fact 35 (f := .int "MOST_LEVELS" (100)) rfl); ⟨_, e, t, rfl⟩
    g_TAG_SIGNS := let ⟨t, e⟩ := He.str_ok X G (c.fact 36 (f := .str "TAG_SIGNS" "abcdefghijklmnopqrstuvwxyz0123456789-") rfl); ⟨_, e, t, rfl⟩
    g_MOST_DEEP := let ⟨t, e⟩ := He.int_ok X G (c.fact 37 (f := .int "MOST_DEEP" (60)) rfl); ⟨_, e, t, rfl⟩
    b_tuple := He.free_ok X G (c.fact 38 (f := .free "tuple") rfl)
    b_len := He.free_ok X G (c.fact 39 (f := .free "len") rfl)
    b_sorted := He.free_ok X G (c.fact 40 (f := .free "sorted") rfl)
    b_any := He.free_ok X G (c.fact 41 (f := .free "any") rfl)
    b_int := He.free_ok X G (c.fact 42 (f := .free "int") rfl)
    b_enumerate := He.free_ok X G (c.fact 43 (f := .free "enumerate") rfl)
    b_abs := He.free_ok X G (c.fact 44 (f := .free "abs") rfl)
    b_range := He.free_ok X G (c.fact 45 (f := .free "range") rfl)
    b_str := He.free_ok X G (c.fact 46 (f := .free "str") rfl)
    b_isinstance := He.free_ok X G (c.fact 47 (f := .free "isinstance") rfl)
    b_dict := He.free_ok X G (c.fact 48 (f := .free "dict") rfl)
    b_zip := He.free_ok X G (c.fact 49 (f := .free "zip") rfl)
    b_list := He.free_ok X G (c.fact 50 (f := .free "list") rfl)
    x_PageError := He.exc_ok (c.fact 51 (f := .exc "PageError") rfl)
    x_MarkupError := He.exc_ok (c.fact 53 (f := .exc "MarkupError") rfl)
    x_TreeError := He.exc_ok (c.fact 55 (f := .exc "TreeError") rfl)
    cl_Node := He.cls_ok (c.fact 57 (f := .cls "Node") rfl)
    no_Node_number := He.noat_ok (c.fact 58 (f := .noat "Node" "number") rfl)
    no_Node_tag := He.noat_ok (c.fact 59 (f := .noat "Node" "tag") rfl)
    no_Node_text := He.noat_ok (c.fact 60 (f := .noat "Node" "text") rfl)
    no_Node_attributes := He.noat_ok (c.fact 61 (f := .noat "Node" "attributes") rfl)
    no_Node_children := He.noat_ok (c.fact 62 (f := .noat "Node" "children") rfl)
    no_Node_parent := He.noat_ok (c.fact 63 (f := .noat "Node" "parent") rfl)
    no_Node_value := He.noat_ok (c.fact 64 (f := .noat "Node" "value") rfl)
    no_Node_checked := He.noat_ok (c.fact 65 (f := .noat "Node" "checked") rfl)
    mk_Node := He.mkr_ok (c.fact 66 (f := .mkr "Node") rfl)
    me_Node_is_text := He.meth_ok (c.fact 67 (f := .meth "Node" "is_text") rfl)
    me_Node_attribute := He.meth_ok (c.fact 68 (f := .meth "Node" "attribute") rfl)
    me_Node_class_words := He.meth_ok (c.fact 69 (f := .meth "Node" "class_words") rfl)
    me_Node_element_children := He.meth_ok (c.fact 70 (f := .meth "Node" "element_children") rfl)
    me_Node_place_in := He.meth_ok (c.fact 71 (f := .meth "Node" "place_in") rfl)
    me_Node_path := He.meth_ok (c.fact 72 (f := .meth "Node" "path") rfl)
    me_Node_levels_below := He.meth_ok (c.fact 73 (f := .meth "Node" "levels_below") rfl)
    me_Node_all_nodes := He.meth_ok (c.fact 74 (f := .meth "Node" "all_nodes") rfl)
    me_Node_content := He.meth_ok (c.fact 75 (f := .meth "Node" "content") rfl)
    me_Node_shown := He.meth_ok (c.fact 76 (f := .meth "Node" "shown") rfl)
    cl_Document := He.cls_ok (c.fact 77 (f := .cls "Document") rfl)
    no_Document_nodes := He.noat_ok (c.fact 78 (f := .noat "Document" "nodes") rfl)
    no_Document_next_number := He.noat_ok (c.fact 79 (f := .noat "Document" "next_number") rfl)
    no_Document_root := He.noat_ok (c.fact 80 (f := .noat "Document" "root") rfl)
    no_Document_version := He.noat_ok (c.fact 81 (f := .noat "Document" "version") rfl)
    mk_Document := He.mkr_ok (c.fact 82 (f := .mkr "Document") rfl)
    me_Document_make := He.meth_ok (c.fact 83 (f := .meth "Document" "make") rfl)
    me_Document_node_of := He.meth_ok (c.fact 84 (f := .meth "Document" "node_of") rfl)
    me_Document_append := He.meth_ok (c.fact 85 (f := .meth "Document" "append") rfl)
    me_Document_place_before := He.meth_ok (c.fact 86 (f := .meth "Document" "place_before") rfl)
    me_Document_remove := He.meth_ok (c.fact 87 (f := .meth "Document" "remove") rfl)
    me_Document_set_attribute := He.meth_ok (c.fact 88 (f := .meth "Document" "set_attribute") rfl)
    me_Document_set_text := He.meth_ok (c.fact 89 (f := .meth "Document" "set_text") rfl)
    me_Document_by_id := He.meth_ok (c.fact 90 (f := .meth "Document" "by_id") rfl)
    cl_Scanner := He.cls_ok (c.fact 91 (f := .cls "Scanner") rfl)
    no_Scanner_text := He.noat_ok (c.fact 92 (f := .noat "Scanner" "text") rfl)
    no_Scanner_place := He.noat_ok (c.fact 93 (f := .noat "Scanner" "place") rfl)
    mk_Scanner := He.mkr_ok (c.fact 94 (f := .mkr "Scanner") rfl)
    me_Scanner_here := He.meth_ok (c.fact 95 (f := .meth "Scanner" "here") rfl)
    me_Scanner_skip_blanks := He.meth_ok (c.fact 96 (f := .meth "Scanner" "skip_blanks") rfl)
    me_Scanner_read_name := He.meth_ok (c.fact 97 (f := .meth "Scanner" "read_name") rfl)
    me_Scanner_up_to := He.meth_ok (c.fact 98 (f := .meth "Scanner" "up_to") rfl)
    cl_TreeBuilder := He.cls_ok (c.fact 99 (f := .cls "TreeBuilder") rfl)
    no_TreeBuilder_scanner := He.noat_ok (c.fact 100 (f := .noat "TreeBuilder" "scanner") rfl)
    no_TreeBuilder_document := He.noat_ok (c.fact 101 (f := .noat "TreeBuilder" "document") rfl)
    no_TreeBuilder_open_nodes := He.noat_ok (c.fact 102 (f := .noat "TreeBuilder" "open_nodes") rfl)
    mk_TreeBuilder := He.mkr_ok (c.fact 103 (f := .mkr "TreeBuilder") rfl)
    me_TreeBuilder_build := He.meth_ok (c.fact 104 (f := .meth "TreeBuilder" "build") rfl)
    me_TreeBuilder_text_run := He.meth_ok (c.fact 105 (f := .meth "TreeBuilder" "text_run") rfl)
    me_TreeBuilder_start_tag := He.meth_ok (c.fact 106 (f := .meth "TreeBuilder" "start_tag") rfl)
    me_TreeBuilder_close_before := He.meth_ok (c.fact 107 (f := .meth "TreeBuilder" "close_before") rfl)
    me_TreeBuilder_read_attributes := He.meth_ok (c.fact 108 (f := .meth "TreeBuilder" "read_attributes") rfl)
    me_TreeBuilder_end_tag := He.meth_ok (c.fact 109 (f := .meth "TreeBuilder" "end_tag") rfl)
    t_VOID := fun H => He.tupB_ok z0 H
    t_BLOCKS := fun H => He.tupB_ok z1 H
    t_RAW := fun H => He.tupB_ok z2 H
    t_FOCUS := fun H => He.tupB_ok z3 H
  }
def nm_Node : List Str := ["number", "tag", "text", "attributes", "children", "parent", "value", "checked"]
theorem fd_Node_number {K : PySem.W.Frag} {mg : Str → Option Value} (T : Tx K mg) : Dn.FldI K (He.ga K "Node") nm_Node "number" 0 := ⟨T.cl_Node, T.no_Node_number, by decide +kernel, rfl, by decide⟩
theorem fd_Node_tag {K : PySem.W.Frag} {mg : Str → Option Value} (T : Tx K mg) : Dn.FldI K (He.ga K "Node") nm_Node "tag" 1 := ⟨T.cl_Node, T.no_Node_tag, by decide +kernel, rfl, by decide⟩
theorem fd_Node_text {K : PySem.W.Frag} {mg : Str → Option Value} (T : Tx K mg) : Dn.FldI K (He.ga K "Node") nm_Node "text" 2 := ⟨T.cl_Node, T.no_Node_text, by decide +kernel, rfl, by decide⟩
theorem fd_Node_attributes {K : PySem.W.Frag} {mg : Str → Option Value} (T : Tx K mg) : Dn.FldI K (He.ga K "Node") nm_Node "attributes" 3 := ⟨T.cl_Node, T.no_Node_attributes, by decide +kernel, rfl, by decide⟩
theorem fd_Node_children {K : PySem.W.Frag} {mg : Str → Option Value} (T : Tx K mg) : Dn.FldI K (He.ga K "Node") nm_Node "children" 4 := ⟨T.cl_Node, T.no_Node_children, by decide +kernel, rfl, by decide⟩
theorem fd_Node_parent {K : PySem.W.Frag} {mg : Str → Option Value} (T : Tx K mg) : Dn.FldI K (He.ga K "Node") nm_Node "parent" 5 := ⟨T.cl_Node, T.no_Node_parent, by decide +kernel, rfl, by decide⟩
theorem fd_Node_value {K : PySem.W.Frag} {mg : Str → Option Value} (T : Tx K mg) : Dn.FldI K (He.ga K "Node") nm_Node "value" 6 := ⟨T.cl_Node, T.no_Node_value, by decide +kernel, rfl, by decide⟩
theorem fd_Node_checked {K : PySem.W.Frag} {mg : Str → Option Value} (T : Tx K mg) : Dn.FldI K (He.ga K "Node") nm_Node "checked" 7 := ⟨T.cl_Node, T.no_Node_checked, by decide +kernel, rfl, by decide⟩
def nm_Document : List Str := ["nodes", "next_number", "root", "version"]
theorem fd_Document_nodes {K : PySem.W.Frag} {mg : Str → Option Value} (T : Tx K mg) : Dn.FldI K (He.ga K "Document") nm_Document "nodes" 0 := ⟨T.cl_Document, T.no_Document_nodes, by decide +kernel, rfl, by decide⟩
theorem fd_Document_next_number {K : PySem.W.Frag} {mg : Str → Option Value} (T : Tx K mg) : Dn.FldI K (He.ga K "Document") nm_Document "next_number" 1 := ⟨T.cl_Document, T.no_Document_next_number, by decide +kernel, rfl, by decide⟩
theorem fd_Document_root {K : PySem.W.Frag} {mg : Str → Option Value} (T : Tx K mg) : Dn.FldI K (He.ga K "Document") nm_Document "root" 2 := ⟨T.cl_Document, T.no_Document_root, by decide +kernel, rfl, by decide⟩
theorem fd_Document_version {K : PySem.W.Frag} {mg : Str → Option Value} (T : Tx K mg) : Dn.FldI K (He.ga K "Document") nm_Document "version" 3 := ⟨T.cl_Document, T.no_Document_version, by decide +kernel, rfl, by decide⟩
def nm_Scanner : List Str := ["text", "place"]
theorem fd_Scanner_text {K : PySem.W.Frag} {mg : Str → Option Value} (T : Tx K mg) : Dn.FldI K (He.ga K "Scanner") nm_Scanner "text" 0 := ⟨T.cl_Scanner, T.no_Scanner_text, by decide +kernel, rfl, by decide⟩
theorem fd_Scanner_place {K : PySem.W.Frag} {mg : Str → Option Value} (T : Tx K mg) : Dn.FldI K (He.ga K "Scanner") nm_Scanner "place" 1 := ⟨T.cl_Scanner, T.no_Scanner_place, by decide +kernel, rfl, by decide⟩
def nm_TreeBuilder : List Str := ["scanner", "document", "open_nodes"]
theorem fd_TreeBuilder_scanner {K : PySem.W.Frag} {mg : Str → Option Value} (T : Tx K mg) : Dn.FldI K (He.ga K "TreeBuilder") nm_TreeBuilder "scanner" 0 := ⟨T.cl_TreeBuilder, T.no_TreeBuilder_scanner, by decide +kernel, rfl, by decide⟩
theorem fd_TreeBuilder_document {K : PySem.W.Frag} {mg : Str → Option Value} (T : Tx K mg) : Dn.FldI K (He.ga K "TreeBuilder") nm_TreeBuilder "document" 1 := ⟨T.cl_TreeBuilder, T.no_TreeBuilder_document, by decide +kernel, rfl, by decide⟩
theorem fd_TreeBuilder_open_nodes {K : PySem.W.Frag} {mg : Str → Option Value} (T : Tx K mg) : Dn.FldI K (He.ga K "TreeBuilder") nm_TreeBuilder "open_nodes" 2 := ⟨T.cl_TreeBuilder, T.no_TreeBuilder_open_nodes, by decide +kernel, rfl, by decide⟩
end K19


/-! any and all of what changes nothing; texts of a row; in -/
namespace Dn
open PySem PySem.Spec PyProof.Rows L2 Pr LamX NdefX
/-- the items are f of things -/
theorem anyT_map {α : Type} {δw : DS} {stop : Bool} {g : DTG} {tt : DTT} {te : DTE} {xs : List α} {f : α → Dt} {l : List Dt} (hl : l = xs.map f) {keep : Store → Prop} {q : DK} {S1 : Store} (p : α → Bool) (hk : keep S1)
    (h : ∀ x ∈ xs, ∀ (C : Store → Bool → Prop) (D : Store → Prop), C S1 (p x) → g (f x) δw S1 fun δ' S' => tt δ' S' fun b S2 => Ift b (te δ' S2 fun y S3 => ∃ k, y = .bl k ∧ C S3 k) (D S2))
    (hq : q (.bl (if stop then xs.any p else xs.all p)) S1) : dAnyT δw stop g tt te l keep q S1 := by
  subst hl
  refine ⟨fun i S => S = S1 ∧ ∀ j d, j < i → xs[j]? = some d → p d = !stop, ⟨rfl, fun j d hj => absurd hj (Nat.not_lt_zero _)⟩, fun i S _ z => by rw [z.1]; exact hk, fun i d S hd z => ?_, fun S z => ?_⟩
  · obtain ⟨rfl, z⟩ := z
    rw [List.getElem?_map] at hd
    obtain ⟨x, hx, rfl⟩ := Option.map_eq_some_iff.mp hd
    have hm := List.mem_of_getElem? hx
    refine h x hm (fun S3 k => stopIf stop k (q (.bl stop) S3) (S3 = S ∧ ∀ j d, j < i + 1 → xs[j]? = some d → p d = !stop)) _ ?_
    have nx : p x = (!stop) → ∀ j d, j < i + 1 → xs[j]? = some d → p d = !stop := fun e j d' hj hd' => by
      rcases Nat.lt_succ_iff_lt_or_eq.mp hj with hj | rfl
      · exact z j d' hj hd'
      · rw [hx] at hd'
        cases hd'
        exact e
    cases stop with
    | true =>
      cases e : p x with
      | true =>
        show q (.bl true) S
        have : xs.any p = true := List.any_eq_true.mpr ⟨x, hm, e⟩
        rw [if_pos rfl, this] at hq
        exact hq
      | false => exact ⟨rfl, nx e⟩
    | false =>
      cases e : p x with
      | true => exact ⟨rfl, nx e⟩
      | false =>
        show q (.bl false) S
        have : xs.all p = false := by
          rw [← Bool.not_eq_true]
          intro ha
          rw [List.all_eq_true.mp ha x hm] at e
          cases e
        rw [if_neg (by decide), this] at hq
        exact hq
  · obtain ⟨rfl, z⟩ := z
    have all : ∀ d ∈ xs, p d = !stop := fun d hd => by
      obtain ⟨j, hj⟩ := List.getElem?_of_mem hd
      exact z j d (by rw [List.length_map]; exact (List.getElem?_eq_some_iff.mp hj).1) hj
    cases stop with
    | true =>
      have : xs.any p = false := by
        rw [← Bool.not_eq_true]
        intro ha
        obtain ⟨d, hd, e⟩ := List.any_eq_true.mp ha
        rw [all d hd] at e
        cases e
      rw [if_pos rfl, this] at hq
      exact hq
    | false =>
      have : xs.all p = true := List.all_eq_true.mpr fun d hd => all d hd
      rw [if_neg (by decide), this] at hq
      exact hq
theorem any_map {α : Type} {δw : DS} {g : DTG} {tt : DTT} {te : DTE} {xs : List α} {f : α → Dt} {l : List Dt} (hl : l = xs.map f) {keep : Store → Prop} {q : DK} {S1 : Store} (p : α → Bool) (hk : keep S1)
    (h : ∀ x ∈ xs, ∀ (C : Store → Bool → Prop) (D : Store → Prop), C S1 (p x) → g (f x) δw S1 fun δ' S' => tt δ' S' fun b S2 => Ift b (te δ' S2 fun y S3 => ∃ k, y = .bl k ∧ C S3 k) (D S2))
    (hq : q (.bl (xs.any p)) S1) : dAnyT δw true g tt te l keep q S1 := anyT_map hl p hk h hq
/-- the letters of a text, each a text -/
def lets (z : Str) : List Str := z.cps.toList.map fun c => ⟨#[c]⟩
/-- a text in a row of texts, a written one or one that the state keeps -/
theorem signs_lets {z : Str} : signsD z = (lets z).map Dt.str := by unfold lets signsD; rw [List.map_map]; rfl
theorem memD_strs {z : Str} {l : List Str} : memD (.str z) (l.map Dt.str) = decide (z ∈ l) := (tells_enc (α := Str)).mem z l
theorem in_tupS {z : Str} {l : List Dt} {m : List Str} {neg : Bool} {S : Store} {q : DK} (e : l = m.map Dt.str) (h : q (.bl (if neg then !decide (z ∈ m) else decide (z ∈ m))) S) : dIn neg (.str z) (.tup l) S q := by
  subst e
  refine ⟨⟨rfl, rfl, ?_⟩, by rw [memD_strs]; exact h⟩
  rw [List.all_eq_true]
  intro d hd
  obtain ⟨y, _, rfl⟩ := List.mem_map.mp hd
  rfl
theorem szX {n : Nat} (h : n ≤ 16777216) : n ≤ sizeLine := h
theorem in_str {y z : Str} {S : Store} {q : DK} (h : q (.bl (hasS z y)) S) : dIn false (.str y) (.str z) S q := ⟨y, rfl, h⟩
theorem nin_str {y z : Str} {S : Store} {q : DK} (h : q (.bl (!hasS z y)) S) : dIn true (.str y) (.str z) S q := ⟨y, rfl, h⟩
/-! written texts, numbers as texts -/
theorem ofs_ok (s : String) : PySem.PyData.strOk (Str.ofString s) = true := by
  rw [sok_all, signs_ofString]
  intro c hc
  obtain ⟨k, _, rfl⟩ := List.mem_map.mp hc
  have := k.valid
  have h : k.toNat < 0xd800 ∨ (0xdfff < k.toNat ∧ k.toNat < 0x110000) := this
  omega
def numS (i : Int) : Str := Str.ofString (toString i)
theorem num_len {i : Int} (h0 : 0 ≤ i) (h1 : i < 10 ^ 10) : (numS i).length ≤ 10 := by
  obtain ⟨m, rfl⟩ := Int.eq_ofNat_of_zero_le h0
  unfold numS
  rw [len_cps]
  rw [show (Str.ofString (toString (m : Int))).cps.toList = (Nat.toDigits 10 m).map Char.toNat from PySem.W.KIN.signs_num m, List.length_map]
  exact toDigits_len_pow (by decide) (by decide) (by omega)
theorem num_ok {i : Int} (h0 : 0 ≤ i) (h1 : i < 10 ^ 10) : i.natAbs.log2 < 1920 ∧ SOk (Str.ofString (toString i)) := by
  refine ⟨?_, Nat.le_trans (num_len h0 h1) (by decide), ofs_ok _⟩
  by_cases h : i.natAbs = 0
  · rw [h]; decide
  · rw [Nat.log2_lt h]
    exact Nat.lt_of_lt_of_le (show i.natAbs < 2 ^ 34 by omega) (Nat.pow_le_pow_right (by decide) (by decide))
end Dn

/-! equal dicts, owned or still -/
namespace Dn
open PySem PySem.Spec PyProof.Rows L2 Pr LamX NdefX
section
variable {X : Cx} {K : PySem.W.Frag}
end
section
variable {S : Store} {q : DK}
theorem in_tup {z : Str} {l : List Dt} (m : List Str) (e : l = m.map Dt.str) (h : q (.bl (decide (z ∈ m))) S) : dIn false (.str z) (.tup l) S q := in_tupS e (by rw [if_neg (by decide)]; exact h)
theorem nin_tup {z : Str} {l : List Dt} (m : List Str) (e : l = m.map Dt.str) (h : q (.bl (!decide (z ∈ m))) S) : dIn true (.str z) (.tup l) S q := in_tupS e (by rw [if_pos rfl]; exact h)
end
theorem cut_len {z : Str} {lo hi : Option Int} : (cutS z lo hi).length ≤ z.length := by
  rw [len_cps, len_cps]
  unfold cutS
  simp
  omega
open PySem.Builtin.Str (strSub partsBetween) in
theorem in_lstG {z : Str} {l : List Dt} {S : Store} {q : DK} (neg : Bool) (m : List Str) (e : l = m.map Dt.str) (h : q (.bl (if neg then !decide (z ∈ m) else decide (z ∈ m))) S) : dIn neg (.str z) (.lst l) S q := by
  subst e
  have t := (tells_enc (α := Str)).lst
  refine ⟨⟨rfl, t.dat m, Nat.zero_le _, Nat.le_trans (t.dep m) (by decide)⟩, ?_⟩
  rw [memD_strs]
  exact h
theorem in_lst {z : Str} {l : List Dt} {S : Store} {q : DK} (m : List Str) (e : l = m.map Dt.str) (h : q (.bl (decide (z ∈ m))) S) : dIn false (.str z) (.lst l) S q := in_lstG false m e (by rw [if_neg (by decide)]; exact h)
theorem nin_lst {z : Str} {l : List Dt} {S : Store} {q : DK} (m : List Str) (e : l = m.map Dt.str) (h : q (.bl (!decide (z ∈ m))) S) : dIn true (.str z) (.lst l) S q := in_lstG true m e (by rw [if_pos rfl]; exact h)
end Dn

/-! texts that were joined: split and words give the parts back -/
namespace Dn
open PySem PySem.Spec PyProof.Rows L2 Pr
/-! parts free of a sign -/
theorem join_cons2 {s x y : Str} {r : List Str} : (Str.join s (x :: y :: r)).cps.toList = x.cps.toList ++ (s.cps.toList ++ (Str.join s (y :: r)).cps.toList) := by
  show (x ++ s ++ Str.join s (y :: r)).cps.toList = _
  rw [app_cps, app_cps, List.append_assoc]
end Dn

/-! three names at once -/
namespace Dn
open PySem PySem.Spec PyProof.Rows L2 Pr LamX
section
variable {X : Cx} {K : PySem.W.Frag} {E : XK} {e : DX} {a b c : Expr} {ts : DTA} {pos : Pos}
@[reducible] def dPar3 (i j l : Nat) (t : DTA) : DTS := fun D δ S => t δ S fun xs S1 => match xs with
  | [x, y, z] => D.nx (putS (putS (putS δ i x) j y) l z) S1
  | _ => False
theorem ds_par3 {i j l : Nat} {x y z : Str} {px py pz pt : Pos} {kt k2 pt2} (hc : X.calm = true) (hN : X.N.Nodup) (hi : X.N[i]? = some x) (hj : X.N[j]? = some y) (hl : X.N[l]? = some z) (hij : i ≠ j) (hil : i ≠ l) (hjl : j ≠ l)
    (hx : X.env.scope.names.lookup x = some .local) (hy : X.env.scope.names.lookup y = some .local) (hz : X.env.scope.names.lookup z = some .local) (ha : PA X [a, b, c] (tDA K E e ts))
    (hw : swappedStores [.Tuple [.Name x px, .Name y py, .Name z pz] kt pt] (.Tuple [a, b, c] k2 pt2) X.env = pure (some [x, y, z]))
    (hs : swapsWithSole [.Tuple [.Name x px, .Name y py, .Name z pz] kt pt] (.Tuple [a, b, c] k2 pt2) pos.line X.env = pure false := by rfl) :
    PS X (.Assign [.Tuple [.Name x px, .Name y py, .Name z pz] kt pt] (.Tuple [a, b, c] k2 pt2) pos) (tDS K E e (dPar3 i j l ts)) := PS.imp (ps_par3 hc hN hi hj hl hij hil hjl hx hy hz ha hw hs) fun D σ H h => by
  obtain ⟨δ, S, Z, DD, t, h, k⟩ := h
  refine ⟨δ, S, Z, _, t, h, fun vs xs H1 S1 g1 x1 r1 h1 => ?_⟩
  match xs, h1 with
  | [x, y, z], h1 =>
    obtain ⟨v, _, rfl, rv, w, _, rfl, rw', u, _, rfl, ru, rfl⟩ := r1
    exact ⟨v, w, u, rfl, k.nx _ _ _ _ g1 x1 ((((t.sl.ext x1).put rv).put rw').put ru) h1⟩
end
end Dn

/-! texts joined: their signs and lengths -/
namespace Dn
open PySem PySem.Spec PyProof.Rows L2 Pr LamX
theorem join_signs {s : Str} {c : Nat} : ∀ {ys : List Str}, c ∈ (Str.join s ys).cps.toList → c ∈ s.cps.toList ∨ ∃ y ∈ ys, c ∈ y.cps.toList
  | [], h => by simp [Str.join, Str.empty] at h
  | [x], h => .inr ⟨x, List.mem_cons_self, h⟩
  | x :: y :: r, h => by
    rw [join_cons2] at h
    rcases List.mem_append.mp h with h | h
    · exact .inr ⟨x, List.mem_cons_self, h⟩
    · rcases List.mem_append.mp h with h | h
      · exact .inl h
      · rcases join_signs h with h | ⟨z, hz, h⟩
        · exact .inl h
        · exact .inr ⟨z, List.mem_cons_of_mem _ hz, h⟩
theorem join_len {s : Str} {k : Nat} : ∀ {ys : List Str}, (∀ y ∈ ys, y.length ≤ k) → (Str.join s ys).length ≤ ys.length * (k + s.length)
  | [], _ => Nat.zero_le _
  | [x], h => by
    have := h x List.mem_cons_self
    show x.length ≤ 1 * (k + s.length)
    omega
  | x :: y :: r, h => by
    have h1 := h x List.mem_cons_self
    have h2 := join_len (s := s) (ys := y :: r) fun z hz => h z (List.mem_cons_of_mem _ hz)
    rw [len_cps, join_cons2, List.length_append, List.length_append, ← len_cps, ← len_cps, ← len_cps, List.length_cons, Nat.add_mul]
    omega
theorem sok_join {s : Str} {k : Nat} {ys : List Str} (hs : SOk s) (hy : ∀ y ∈ ys, SOk y ∧ y.length ≤ k) (hb : ys.length * (k + s.length) ≤ 16777216) : SOk (Txt.join s ys) ∧ (Txt.join s ys).length ≤ ys.length * (k + s.length) := by
  rw [TL.join_eq]
  have h1 := join_len (s := s) (ys := ys) fun y h => (hy y h).2
  refine ⟨⟨Nat.le_trans h1 hb, ?_⟩, h1⟩
  rw [sok_all]
  intro c hc
  rcases join_signs hc with h | ⟨y, h, h2⟩
  · exact sok_all.mp hs.ok c h
  · exact sok_all.mp (hy y h).1.ok c h2
theorem sum_len {k : Nat} : ∀ {ys : List Str}, (∀ y ∈ ys, y.length ≤ k) → (ys.map (·.length)).sum ≤ ys.length * k
  | [], _ => Nat.zero_le _
  | x :: r, h => by
    have h1 := h x List.mem_cons_self
    have h2 := sum_len (ys := r) fun z hz => h z (List.mem_cons_of_mem _ hz)
    rw [List.map_cons, List.sum_cons, List.length_cons, Nat.add_mul]
    omega
theorem join_go {s : Str} {k : Nat} {ys : List Str} {x : Dt} {S : Store} {q : DK} (hx : x = .tup (ys.map Dt.str) ∨ x = .lst (ys.map Dt.str)) (hs : SOk s) (hy : ∀ y ∈ ys, SOk y ∧ y.length ≤ k) (hb : ys.length * (k + s.length) ≤ 16777216) (h : q (.str (Txt.join s ys)) S) : rmJoin (.str s) [x] S q := by
  have g : ∃ zs : List Str, ys.map Dt.str = zs.map Dt.str ∧ ((zs.map (·.length)).sum + zs.length * s.length ≤ 16777216 ∧ SOk (Txt.join s zs)) ∧ q (.str (Txt.join s zs)) S := by
    refine ⟨ys, rfl, ⟨?_, (sok_join hs hy hb).1⟩, h⟩
    have := sum_len (ys := ys) fun y h => (hy y h).2
    rw [Nat.mul_add] at hb
    omega
  rcases hx with rfl | rfl
  · exact g
  · exact g
theorem sok_of {z : Str} (h : (decide (z.length ≤ 16777216) && PySem.PyData.strOk z) = true) : SOk z := by
  rw [Bool.and_eq_true, decide_eq_true_iff] at h
  exact ⟨h.1, h.2⟩
end Dn

/-! sorted of data; sorted by a key -/
namespace Dn
open PySem PySem.Spec PyProof.Rows L2 Pr
open PySem.W (EachIs AllAlike Sortable dataLe)
/-- what may be compared, all with all -/
structure SrtOk (l : List Dt) : Prop where
  dat : areDat l = true
  alike : AllAlike (pys l)
  srt : Sortable (pys l)
  dep : ∀ d ∈ l, (py d).depth ≤ 60
def srtD (key : Dt → Dt) (l : List Dt) : List Dt := l.mergeSort (dataLe false fun d => py (key d))
theorem each_of {G : Hp} {K : PySem.W.Frag} : ∀ {l : List Dt} {vs : List V} {us : List Value}, Reps K G l vs → Vals vs us → EachIs (fun u d => ∃ v, RelV v u ∧ Rep K G d v) us l
  | [], vs, us, h, r => by
    have h : vs = [] := h
    subst h
    cases r
    exact .nil
  | d :: l, vs, us, ⟨v, t, e, h1, h2⟩, r => by
    subst e
    cases r with
    | cons r1 r2 => exact .cons ⟨v, r1, h1⟩ (each_of h2 r2)
theorem of_each {G : Hp} {K : PySem.W.Frag} : ∀ {l : List Dt} {us : List Value}, EachIs (fun u d => ∃ v, RelV v u ∧ Rep K G d v) us l → ∃ vs, Reps K G l vs ∧ Vals vs us
  | [], us, h => by cases h; exact ⟨[], rfl, .nil⟩
  | d :: l, us, h => by
    cases h with
    | cons h1 h2 =>
      obtain ⟨v, r, q⟩ := h1
      obtain ⟨vs, a, b⟩ := of_each h2
      exact ⟨v :: vs, ⟨v, vs, rfl, q, a⟩, .cons r b⟩
@[reducible] def rcSortX : DCr := fun xs S q => match xs with
  | [x] => seeL x S fun l => SrtOk l ∧ q (.lst (srtD id l)) S
  | _ => False
section
variable {X : Cx} {K : PySem.W.Frag}
theorem srt_reads {pins : List (Addr × Obj)} {σ : L2.St} {H : Hp} {s : Shared} {Z : Hp} {S : Store} {l : List Dt} {vs : List V} {us : List Value} (I : Inv X pins σ H s) (hK : X.K = K) (ok : SrtOk l) (rs : Reps K (out H S Z) l vs) (r : Vals vs us) :
    EachIs (fun v d => ∃ as, Reads s.heap v (py d) as) us l := by
  subst hK
  obtain ⟨as, ra⟩ := Dp.readsAll I (pys l) vs us (Reps.dp l vs ok.dat rs) r
  rw [pys_map] at ra
  exact PySem.W.readsAll_each py ra
theorem cd_sortX (hK : X.K = K) (hu : X.A.units + 65 < cLine) : CallR X (.builtin "sorted") (rDC K rcSortX) := fun pins s σ H xs us Q I r ⟨ds, S, Z, q, g, rs, h, k⟩ => by
  obtain ⟨x, rfl, h⟩ := one_arg h
  obtain ⟨v, rfl, rv⟩ := reps1 rs
  obtain ⟨a, vs, l, rfl, h1, h2, ok, h3⟩ := see_lst g rv h
  obtain ⟨u, rfl, ru⟩ := vals1 r
  obtain rfl : u = Value.ref a := ru
  obtain ⟨its, rv2, hl, hz⟩ := I.list (SqL.of h1)
  have e1 := each_of h2 rv2
  have al := ok.alike
  have sr := ok.srt
  rw [pys_map] at al sr
  refine PySem.W.sorted_data (enc := py) hl.isList e1 (srt_reads I hK ok h2 rv2) al sr (by rw [h2.len]; exact hz) (fun d hd => by have := ok.dep d hd; omega) fun out' hlen he => ?_
  obtain ⟨ws, w1, w2⟩ := of_each he
  obtain ⟨ep, hep⟩ := PyProof.Rows.sortedAll_at s.heap its (List.toArray out')
  have np : H (s.heap.objs.size + 1) = none := I.hok.fresh (Nat.le_succ _)
  have lenw : ws.length ≤ sizeLine := by rw [w2.length, hlen, h2.len]; exact hz
  refine ⟨.ref _, upd H (s.heap.objs.size + 1) (.lst ws), I.laid (t' := s.toks) (fun _ _ => PyProof.Rows.sortedAll_old) (Nat.le_succ _) ⟨lenw, out', ep, w2, hep⟩, rfl, k.new g np h3 ⟨_, _, rfl, out_new g np, ?_⟩⟩
  exact Reps.ext (ext_new g np) _ _ w1
end
/-! ## by a key -/
section
variable {X : Cx} {pins : List (Addr × Obj)} {σ : L2.St} {H : Hp} {s : Shared}
/-- an object of ours changes: all that must be known of its address -/
structure Ours (X : Cx) (pins : List (Addr × Obj)) (D : Addr) : Prop where
  new : X.s_0.heap.objs.size ≤ D
  loc : D ≠ X.env.locals
  cel : ∀ x c, X.env.cells.lookup x = some c → c ≠ D
  fs : D ∉ X.fs
  pin : ∀ p ∈ X.pn ++ pins, p.1 ≠ D
theorem Ours.more {D : Addr} (O : Ours X pins D) {p : Addr × Obj} (h : p.1 ≠ D) : Ours X (p :: pins) D := ⟨O.new, O.loc, O.cel, O.fs, fun q hq => by
  rcases List.mem_append.mp hq with z | z
  · exact O.pin q (List.mem_append_left _ z)
  · rcases List.mem_cons.mp z with rfl | z
    · exact h
    · exact O.pin q (List.mem_append_right _ z)⟩
end
end Dn

/-! sorted(xs, key=f): f a def or a lambda that changes nothing -/
namespace Dn
open PySem PySem.Spec PyProof.Rows L2 Pr
open PySem.W (EachIs AllAlike Sortable dataLe SortsAt copyHeap sortingHeap sortVals sort_out)
section
variable {prog : Program} {w : World} {A : Around} {E : Value → Shared → Prop} {s : Shared} {D kS : Addr} {vs : List Value} {keys : Array Value} {e e1 : Nat} {P : PySem.Fin → Shared → Prop}
end
/-- what the call of the key's function gives: the key of each item, and nothing changes -/
def Turn (X : Cx) (K : PySem.W.Frag) (f : Value) (key : Dt → Dt) (l : List Dt) (G : Hp) (S : Store) (Z : Hp) : Prop :=
  ∀ (d : Dt) (pins : List (Addr × Obj)) (σ : L2.St) (H : Hp) (s : Shared) (u : V) (v : Value), d ∈ l → Inv X pins σ H s → Good K Z H S → Ext G (out H S Z) → Rep K (out H S Z) d u → RelV u v →
    wpAny (model X.prog X.w) X.A.in1.in1 (call f [v]) (EP X pins σ fun y H' => Good K Z H' S ∧ Ext (out H S Z) (out H' S Z) ∧ Rep K (out H' S Z) (key d) y) (fun _ _ => False) s
section
variable {X : Cx} {pins : List (Addr × Obj)} {σ : L2.St} {H : Hp} {s : Shared} {K : PySem.W.Frag} {Z : Hp} {S : Store} {l : List Dt} {vs : List V} {us : List Value} {f : Value} {key : Dt → Dt} {a : Addr} {Q : VK}
end
end Dn

/-! sorted(xs, key=f) as rules -/
namespace Dn
open PySem PySem.Spec PyProof.Rows L2 Pr LamX NdefX
section
variable {X : Cx} {K : PySem.W.Frag} {E : XK} {e : DX} {k j : Nat} {a : Expr} {da : DTA} {c : DSp}
theorem see_eq {x : Dt} {S : Store} {k : List Dt → Prop} (h : seeL x S k) : ∃ l, (seeL x S fun m => m = l) ∧ k l := by
  cases x with
  | lst l => exact ⟨l, rfl, h⟩
  | ref a => obtain ⟨l, h1, h2⟩ := h; exact ⟨l, ⟨l, h1, rfl⟩, h2⟩
  | _ => exact h.elim
end
end Dn

/-! an attribute among several targets; what stands still from now on -/
namespace Dn
open PySem PySem.Spec PyProof.Rows L2 Pr LamX NdefX
section
variable {X : Cx} {K : PySem.W.Frag} {E : XK} {e : DX} {o : Expr} {da : DTE} {C : Addr} {nm : List Str} {f : Str} {i : Nat} {pos : Pos} {st : Stmt} {t : DTS}
end
/-! a list against the empty one -/
@[reducible] def nilD (x : Dt) (S : Store) (k : Prop) : Prop := seeL x S fun m => match m with
  | [] => k
  | _ => False
@[reducible] def dEqN : D2 := fun x y S q => seeL x S fun l => nilD y S (q (.bl l.isEmpty) S)
@[reducible] def dNeN : D2 := fun x y S q => seeL x S fun l => nilD y S (q (.bl (!l.isEmpty)) S)
section
variable {X : Cx} {K : PySem.W.Frag}
theorem nil_of {x : Dt} {S : Store} {k : Prop} (h : nilD x S k) : (seeL x S fun m => m = []) ∧ k := by
  have go : ∀ m : List Dt, (match m with
    | [] => k
    | _ => False) → m = [] ∧ k := fun m h => by
    cases m with
    | nil => exact ⟨rfl, h⟩
    | cons a b => exact h.elim
  cases x with
  | lst m => exact go m h
  | ref a =>
    obtain ⟨m, h1, h2⟩ := h
    obtain ⟨rfl, h3⟩ := go m h2
    exact ⟨⟨[], h1, rfl⟩, h3⟩
  | _ => exact h.elim
theorem nil_lists {pins : List (Addr × Obj)} {σ : L2.St} {H : Hp} {s : Shared} {Z : Hp} {S : Store} {dx dy : Dt} {x y : V} {v u : Value} {k : Prop} {kk : List Dt → Prop} (I : Inv X pins σ H s) (g : Good K Z H S) (rx : Rep K (out H S Z) dx x) (ry : Rep K (out H S Z) dy y) (rv : RelV x v) (ru : RelV y u) (h : seeL dx S kk) (hk : ∀ l, kk l → nilD dy S k ∧ True) :
    ∃ a b its l, v = .ref a ∧ u = .ref b ∧ s.heap.IsList a its ∧ s.heap.IsList b #[] ∧ its.size = l.length ∧ kk l ∧ k := by
  obtain ⟨a, vs, l, rfl, h1, h2, h3⟩ := see_lst g rx h
  obtain ⟨h4, hk⟩ := nil_of (hk l h3).1
  obtain ⟨b, ws, m, rfl, h5, h6, rfl⟩ := see_lst g ry h4
  obtain rfl : ws = [] := h6
  obtain ⟨its, r1, p1, _⟩ := I.list (SqL.of h1)
  obtain ⟨its2, r2, p2, _⟩ := I.list (SqL.of h5)
  cases r2
  obtain rfl : v = Value.ref a := rv
  obtain rfl : u = Value.ref b := ru
  exact ⟨a, b, its.toArray, l, rfl, rfl, p1.isList, p2.isList, by rw [List.size_toArray, ← r1.length, h2.len], h3, hk⟩
theorem size_nil {its : Array Value} {l : List Dt} (h : its.size = l.length) : (its.size != (#[] : Array Value).size) = !l.isEmpty := by
  rw [h]
  cases l with
  | nil => rfl
  | cons a b => rfl
theorem od_eqN (hu : X.A.units + 65 < cLine) : OpR X (compareOp .Eq) (rD K dEqN) := fun pins s σ H x y v u Q I rv ru ⟨dx, dy, S, Z, q, g, rx, ry, h, k⟩ => by
  obtain ⟨l0, hl0, hl1⟩ := see_eq h
  obtain ⟨a, b, its, l, rfl, rfl, p1, p2, hs, h3, h4⟩ := nil_lists (k := q (.bl l0.isEmpty) S) (kk := fun m => m = l0) I g rx ry rv ru hl0 (fun m e => ⟨hl1, trivial⟩)
  subst h3
  have hn := size_nil hs
  cases hl : l.isEmpty with
  | true =>
    rw [hl] at hn h4
    refine PySem.SeqAt.eq_listAt (e := fun _ => true) p1 p2 (by simpa using hn) (by omega) (fun j h1 h2 => absurd h2 (by simp)) ?_
    refine ⟨.bl _, H, I, rfl, ?_⟩
    have e0 : its.size = 0 := by simpa using hn
    rw [e0]
    exact k.here g h4 rfl
  | false =>
    rw [hl] at hn h4
    exact PySem.SeqAt.eq_list_lengthsAt p1 p2 (by simpa using hn) (by omega) ⟨.bl _, H, I, rfl, k.here g h4 rfl⟩
theorem od_neN (hu : X.A.units + 65 < cLine) : OpR X (compareOp .NotEq) (rD K dNeN) := fun pins s σ H x y v u Q I rv ru ⟨dx, dy, S, Z, q, g, rx, ry, h, k⟩ => by
  obtain ⟨l0, hl0, hl1⟩ := see_eq h
  obtain ⟨a, b, its, l, rfl, rfl, p1, p2, hs, h3, h4⟩ := nil_lists (k := q (.bl (!l0.isEmpty)) S) (kk := fun m => m = l0) I g rx ry rv ru hl0 (fun m e => ⟨hl1, trivial⟩)
  subst h3
  have hn := size_nil hs
  cases hl : l.isEmpty with
  | true =>
    rw [hl] at hn h4
    refine PySem.SeqAt.RcNeAt.lists (e := fun _ => true) p1 p2 (by simpa using hn) (by omega) (fun j h1 h2 => absurd h2 (by simp)) X.prog X.w _ _ ?_
    refine ⟨.bl _, H, I, rfl, ?_⟩
    have e0 : its.size = 0 := by simpa using hn
    rw [e0]
    exact k.here g h4 rfl
  | false =>
    rw [hl] at hn h4
    exact PySem.SeqAt.RcNeAt.lists_lengths p1 p2 (by simpa using hn) (by omega) X.prog X.w _ _ ⟨.bl _, H, I, rfl, k.here g h4 rfl⟩
end
end Dn

/-! sorting by numbers; three texts at once -/
namespace Dn
open PySem PySem.Spec PyProof.Rows L2 Pr
open PySem.W (EachIs AllAlike Sortable dataLe)
section
variable {S : Store} {q : DK}
end
end Dn

/-! dicts whose keys are tuples -/
namespace Dn
open PySem PySem.Spec PyProof.Rows L2 Pr
section
variable {X : Cx} {K : PySem.W.Frag} {E : XK} {e : DX} {pos pos' apos cpos : Pos} {a b c ex o : Expr} {es rest : List Expr} {da db dc : DTE} {ts : DTA}
end
end Dn

/-! enumerate over a text; min and max of three -/
namespace Dn
open PySem PySem.Spec PyProof.Rows L2 Pr
/-! min and max of three -/
end Dn

/-! equal data; a dict's items; comprehensions that map; numbers of a row -/
namespace Dn
open PySem PySem.Spec PyProof.Rows L2 Pr
mutual
theorem plain_of : ∀ d : Dt, isDat d = true → PyData.plain (py d) = true
  | .non, _ | .bl _, _ | .int _, _ | .str _, _ => rfl
  | .ref _, x | .ty _, x | .dic _, x | .obj _ _ _, x | .scr _, x | .lam _ _, x | .gco _ _, x => by simp [isDat] at x
  | .tup l, x => plains_of l x
  | .ptp l, x => plains_of l x
  | .lst l, x => plains_of l x
theorem plains_of : ∀ l : List Dt, areDat l = true → PyData.plainAll (pys l) = true
  | [], _ => rfl
  | d :: l, x => by
    have x : (isDat d && areDat l) = true := x
    rw [Bool.and_eq_true] at x
    show (PyData.plain (py d) && PyData.plainAll (pys l)) = true
    rw [plain_of d x.1, plains_of l x.2]
    rfl
end
theorem deqv_self {d : Dt} (h : isDat d = true) : deqv d d = true := PySem.SeqAt.eqv_refl_plain _ (plain_of d h)
theorem ne_self {d : Dt} {S : Store} {q : DK} (h : isDat d = true) (hd : (py d).depth ≤ 64) (hq : q (.bl false) S) : dNe d d S q := ⟨⟨h, h, hd, hd⟩, by rw [deqv_self h]; exact hq⟩
theorem eq_self {d : Dt} {S : Store} {q : DK} (h : isDat d = true) (hd : (py d).depth ≤ 64) (hq : q (.bl true) S) : dEq d d S q := ⟨⟨h, h, hd, hd⟩, by rw [deqv_self h]; exact hq⟩
/-- data of a depth -/
structure DatN (d : Dt) (n : Nat) : Prop where
  dat : isDat d = true
  dep : (py d).depth ≤ n
theorem DatN.lst {l : List Dt} {n : Nat} (h : ∀ d ∈ l, DatN d n) : DatN (.lst l) (n + 1) := ⟨areDat_of fun d hd => (h d hd).dat, Nat.succ_le_succ (pys_dep fun d hd => (h d hd).dep)⟩
theorem DatN.tup {l : List Dt} {n : Nat} (h : ∀ d ∈ l, DatN d n) : DatN (.tup l) (n + 1) := ⟨areDat_of fun d hd => (h d hd).dat, Nat.succ_le_succ (pys_dep fun d hd => (h d hd).dep)⟩
theorem DatN.ne {d : Dt} {n : Nat} {S : Store} {q : DK} (h : DatN d n) (hn : n ≤ 64) (hq : q (.bl false) S) : dNe d d S q := ne_self h.dat (Nat.le_trans h.dep hn) hq
theorem DatN.lstM {α : Type} {L : List α} {f : α → Dt} {n : Nat} (h : ∀ x ∈ L, DatN (f x) n) : DatN (.lst (L.map f)) (n + 1) := DatN.lst fun d hd => by
  obtain ⟨x, hx, rfl⟩ := List.mem_map.mp hd
  exact h x hx
theorem DatN.tupM {α : Type} {L : List α} {f : α → Dt} {n : Nat} (h : ∀ x ∈ L, DatN (f x) n) : DatN (.tup (L.map f)) (n + 1) := DatN.tup fun d hd => by
  obtain ⟨x, hx, rfl⟩ := List.mem_map.mp hd
  exact h x hx
/-! what a dict holds -/
section
variable {κ : Type} [DecidableEq κ]
theorem kGet_any (k : κ) : ∀ l : List (κ × Dt), (l.any fun p => decide (p.1 = k)) = (kGet l k).isSome
  | [] => rfl
  | p :: l => by
    unfold kGet
    rw [List.any_cons, List.find?_cons]
    by_cases h : p.1 = k
    · simp [h]
    · have := kGet_any k l
      unfold kGet at this
      simp [h, this]
end
/-! comprehensions that map, where nothing changes -/
section
variable {keep : Store → Prop} {g : DTG} {tt : DTT} {te : DTE} {q : List Dt → Store → Prop} {δ : DS} {S : Store}
theorem lc_map {α : Type} (enc : α → Dt) (f : α → Dt) (hk : keep S) (L : List α)
    (h : ∀ x ∈ L, ∀ (kY : Dt → Store → Prop) (kN : Store → Prop), kY (f x) S → g (enc x) δ S fun δ' S' => tt δ' S' fun b S2 => Ift b (te δ' S2 kY) (kN S2))
    (hq : q (L.map f) S) : lcGo keep g tt te q δ (L.map enc) [] S := by
  refine lcGo_pure enc (fun x => some (f x)) hk L [] (fun x hx kY kN hY _ => h x hx kY kN (hY _ rfl)) ?_
  rw [List.nil_append, show L.filterMap (fun x => some (f x)) = L.map f from congrFun List.filterMap_eq_map' L]
  exact hq
theorem filt_mapD {α β : Type} (enc : α → β) (p : α → Bool) : ∀ L : List α, L.filterMap (fun x => if p x = true then some (enc x) else none) = (L.filter p).map enc
  | [] => rfl
  | x :: r => by
    cases h : p x with
    | true => rw [List.filterMap_cons_some (b := enc x) (by simp [h]), List.filter_cons_of_pos h, List.map_cons, filt_mapD enc p r]
    | false => rw [List.filterMap_cons_none (by simp [h]), List.filter_cons_of_neg (by simp [h]), filt_mapD enc p r]
theorem lc_choose {α : Type} (enc : α → Dt) (p : α → Bool) (f : α → Dt) (hk : keep S) (L : List α)
    (h : ∀ x ∈ L, ∀ (kY : Dt → Store → Prop) (kN : Store → Prop), (p x = true → kY (f x) S) → (p x = false → kN S) → g (enc x) δ S fun δ' S' => tt δ' S' fun b S2 => Ift b (te δ' S2 kY) (kN S2))
    (hq : q ((L.filter p).map f) S) : lcGo keep g tt te q δ (L.map enc) [] S := by
  refine lcGo_pure enc (fun x => if p x = true then some (f x) else none) hk L [] (fun x hx kY kN hY hN => h x hx kY kN (fun e => hY _ (by rw [if_pos e])) (fun e => hN (by rw [e]; rfl))) ?_
  rw [List.nil_append, filt_mapD]
  exact hq
end
theorem dFor_eq (it : DTL) (g : DTG) (b : DTS) (D : DEnds) (δ : DS) (S : Store) : dFor it g b D δ S = it δ S fun l keep S1 => ∃ I : Nat → DS → Store → Prop, I 0 δ S1 ∧ (∀ i δ S, i ≤ l.length → I i δ S → keep S) ∧
  (∀ i d δ S, l[i]? = some d → I i δ S → g d δ S fun δ' S' => b { D with nx := I (i + 1), ct := I (i + 1), bk := D.nx } δ' S') ∧ ∀ δ S, I l.length δ S → D.nx δ S := rfl
theorem dLc_eq (it : DTL) (g : DTG) (w : List Nat) (tt : DTT) (te : DTE) (q : List Dt → Store → Prop) (δ : DS) (S : Store) : dLc it g w tt te q δ S = it δ S fun l keep S1 => l.length < sizeLine ∧ ∃ I : Nat → List Dt → Store → Prop, I 0 [] S1 ∧ (∀ i acc S, i ≤ l.length → I i acc S → keep S) ∧
  (∀ i d acc S, l[i]? = some d → I i acc S → g d (wipesS δ w) S fun δ' S' => tt δ' S' fun b S2 => Ift b (te δ' S2 fun y S3 => I (i + 1) (acc ++ [y]) S3) (I (i + 1) acc S2)) ∧ ∀ acc S, I l.length acc S → q acc S := rfl
/-! a for over a row, by an invariant over the index -/
section
variable {keep : Store → Prop} {g : DTG} {b : DTS} {D : DEnds}
theorem forGo_at {α : Type} (enc : α → Dt) (L : List α) (I : Nat → DS → Store → Prop) (hk : ∀ i δ S, I i δ S → keep S)
    (h : ∀ i x δ S, L[i]? = some x → I i δ S → ∀ nx : DS → Store → Prop, (∀ δ' S', I (i + 1) δ' S' → nx δ' S') → g (enc x) δ S fun δ' S' => b { D with nx := nx, ct := nx, bk := D.nx } δ' S')
    (fin : ∀ δ S, I L.length δ S → D.nx δ S) : ∀ {δ : DS} {S : Store}, I 0 δ S → forGo keep g b D (L.map enc) δ S := by
  have go : ∀ (M : List α) (k : Nat), M = L.drop k → k + M.length = L.length → ∀ δ S, I k δ S → forGo keep g b D (M.map enc) δ S := by
    intro M
    induction M with
    | nil => exact fun k e hl δ S i => ⟨hk _ _ _ i, fin δ S (by rw [← hl]; exact i)⟩
    | cons x M ih =>
      intro k e hl δ S i
      have ex : L[k]? = some x := by
        have := congrArg (fun l => l[0]?) e
        rw [List.getElem?_drop] at this
        simpa using this.symm
      refine ⟨hk _ _ _ i, h k x δ S ex i _ fun δ' S' i' => ih (k + 1) ?_ (by rw [List.length_cons] at hl; omega) δ' S' i'⟩
      have := congrArg List.tail e
      rw [List.tail_cons, List.tail_drop] at this
      exact this
  exact fun {δ S} i => go L 0 rfl (by omega) δ S i
theorem forGo_rng (lo : Int) (n : Nat) (I : Nat → DS → Store → Prop)
    (h : ∀ (i : Nat) δ S, i < n → I i δ S → ∀ nx : DS → Store → Prop, (∀ δ' S', I (i + 1) δ' S' → nx δ' S') → g (.int (lo + i)) δ S fun δ' S' => b { D with nx := nx, ct := nx, bk := D.nx } δ' S')
    (fin : ∀ δ S, I n δ S → D.nx δ S) {δ : DS} {S : Store} (i0 : I 0 δ S) : forGo (fun _ => True) g b D (rangeD lo n) δ S := by
  refine forGo_at (fun (i : Nat) => Dt.int (lo + i)) (List.range n) I (fun _ _ _ _ => trivial) (fun i x δ S e ii nx k => ?_) (fun δ S ii => fin δ S (by rw [List.length_range] at ii; exact ii)) i0
  have hi : i < n := by
    have := (List.getElem?_eq_some_iff.mp e).1
    rwa [List.length_range] at this
  rw [List.getElem?_range hi] at e
  cases e
  exact h i δ S hi ii nx k
end
theorem tup_go {δw : DS} {g : DTG} {tt : DTT} {te : DTE} {l : List Dt} {keep : Store → Prop} {q : DK} {S1 : Store} (hl : l.length < sizeLine) (h : lcGo keep g tt te (fun acc S => q (.tup acc) S) δw l [] S1) : dTupT δw g tt te l keep q S1 := ⟨hl, lc_go h⟩
end Dn

/-! dict comprehensions over deep values -/
namespace Dn
open PySem PySem.Spec PyProof.Rows L2 Pr LamX NdefX
section
variable {X : Cx} {K : PySem.W.Frag} {E : XK} {e : DX} {pos : Pos} {kx vx tg iter : Expr} {ifs : List Expr} {scope : Scope} {own : List (Str × Nat)} {it : DTL} {g : DTG} {tt : DTT} {tk tv : DTE}
end
end Dn

/-! sorted(d.items()) of texts by texts; dict of a tuple of pairs -/
namespace Pr
open PySem PySem.Spec PyProof.Rows L2 LamX NdefX
open PySem.W (EachIs AllAlike Sortable dataLe kdx_collect KdxG)
abbrev SS := Str × Str
def ssPy (p : SS) : PyData := .tuple [.str p.1, .str p.2]
def srtSS (ps : List SS) : List SS := ps.mergeSort (dataLe false ssPy)
def enSS (ps : List SS) : List (L2.Key × V) := ps.map fun p => (Sum.inr p.1, V.str p.2)
def tSortItems (te : TE) : TE := fun σ H Q => te σ H fun x H1 => ∃ (d : Addr) (ps : List SS), x = .ref d ∧ H1 d = some (.dK (enSS ps)) ∧ ∀ (H' : Hp) (p : Addr) (ts : List Addr), (∀ b o, H1 b = some o → H' b = some o) → H1 p = none → (∀ t ∈ ts, H1 t = none) → p ∉ ts →
  H' p = some (.lst (ts.map V.ref)) → Paired (fun (t : Addr) (q : SS) => H' t = some (.tup [.str q.1, .str q.2])) ts (srtSS ps) → Q (.ref p) H'
section
variable {X : Cx} {pins : List (Addr × Obj)} {σ : L2.St}
/-- the pairs and their list, behind them -/
theorem items_laid2 {H : Hp} {s : Shared} {h' : Heap} {tk : Nat} {kvs : List (L2.Key × V)} {vs : List (L2.Key × Value)} {as : List Addr} (I : Inv X pins σ H s) (hz : kvs.length ≤ sizeLine) (kv : KV kvs vs)
    (hk : ∀ b o, s.heap.get? b = some o → h'.get? b = some o) (hlo : s.heap.objs.size ≤ h'.objs.size) (hl : as.length = vs.length) (hG : KdxG (mixKind X.prog X.w) vs s.heap.objs.size h' as) :
    ∃ H' : Hp, (∀ b o, H b = some o → H' b = some o) ∧ H h'.objs.size = none ∧ (∀ t ∈ as, H t = none) ∧ h'.objs.size ∉ as ∧ H' h'.objs.size = some (.lst (as.map V.ref)) ∧ Paired (fun (t : Addr) (q : L2.Key × V) => H' t = some (.tup [kV q.1, q.2])) as kvs ∧
      Inv X pins σ H' { s with heap := h'.push { cls := .type "list", data := .seq (as.map Value.ref).toArray }, toks := tk } := by
  have lk : kvs.length = vs.length := Paired.length kv
  have hSn : h'.objs.size ∉ as := fun z => Nat.lt_irrefl _ (hG.there z)
  have nd : as.Nodup := List.Pairwise.imp (fun {a b} (h : a < b) => Nat.ne_of_lt h) hG.rise
  have new : ∀ t ∈ as, H t = none := fun t ht => I.hok.fresh (Nat.le_of_lt (hG.above t ht))
  have newS : H h'.objs.size = none := I.hok.fresh hlo
  have atP := LiI.putT_at as kvs (upd H h'.objs.size (.lst (as.map V.ref))) (by omega) nd
  have off : ∀ b, b ∉ as → b ≠ h'.objs.size → LiI.putT (upd H h'.objs.size (.lst (as.map V.ref))) as kvs b = H b := fun b h1 h2 => by rw [LiI.putT_off as kvs _ h1, upd_ne h2]
  have low : ∀ b o, s.heap.get? b = some o → b ∉ as ∧ b ≠ h'.objs.size := fun b o e => ⟨fun z => absurd (Heap.lt_size e) (Nat.not_lt.mpr (Nat.le_of_lt (hG.above b z))), Nat.ne_of_lt (Nat.lt_of_lt_of_le (Heap.lt_size e) hlo)⟩
  have kp : ∀ b u, H b = some u → (LiI.putT (upd H h'.objs.size (.lst (as.map V.ref))) as kvs) b = some u := fun b u e => by
    rw [off b (fun z => by rw [new b z] at e; cases e) (fun z => by rw [z, newS] at e; cases e)]
    exact e
  have hk2 : ∀ b o, s.heap.get? b = some o → (h'.push { cls := .type "list", data := .seq (as.map Value.ref).toArray }).get? b = some o := fun b o e => Heap.get?_push_of_some _ (hk b o e)
  have eS : LiI.putT (upd H h'.objs.size (.lst (as.map V.ref))) as kvs h'.objs.size = some (.lst (as.map V.ref)) := by rw [LiI.putT_off as kvs _ hSn, upd_same]
  refine ⟨LiI.putT (upd H h'.objs.size (.lst (as.map V.ref))) as kvs, kp, newS, new, hSn, eS, atP, ?_⟩
  refine I.call' (ch := []) rfl ⟨fun b o q _ _ _ => hk2 b o q, fun b o q _ _ _ => ⟨o.slots, hk2 b o q⟩, fun b o q n _ => ?_, fun b o q _ => ⟨o, hk2 b o q⟩, fun b xs q => kp b _ q, fun b o u q => kp b _ q, fun b ps q => ⟨#[], by rw [kp b _ q]; simp⟩⟩ (fun b u q => ?_) I.bare fun b z => by simp at z
  · obtain ⟨z1, z2⟩ := low b o q
    rw [off b z1 z2]
    exact n
  · by_cases hb : b ∈ as
    · obtain ⟨j, pk, e1, e2, e3⟩ := LiI.paired_ix atP hb
      rw [e3] at q
      cases q
      obtain ⟨key, k, x, f1, f2, f3⟩ := hG.pairs j b e1
      obtain ⟨qv, g1, g2, g3⟩ := LiI.paired_get kv e2
      rw [f1] at g1
      cases g1
      have rk : RelV (kV pk.1) key := by
        rw [g2]
        exact relV_key (show keyIs k key = true from f2)
      exact ⟨by show 2 ≤ sizeLine; decide, [key, x], .cons rk (.cons g3 .nil), ⟨_, Heap.get?_push_of_some _ f3, rfl, _, rfl⟩⟩
    · by_cases hb2 : b = h'.objs.size
      · rw [hb2] at q ⊢
        rw [eS] at q
        cases q
        exact ⟨by rw [List.length_map]; omega, as.map Value.ref, 0, LiI.vals_refs as, Heap.get?_push_size _ rfl⟩
      · rw [off b hb hb2] at q
        exact (I.hok b u q).stay (fun d v _ y => hk2 d v y) (fun d y => kp d _ y) fun d xs y => kp d _ y
theorem each_zip {α : Type} : ∀ {as : List Addr} {ps : List α}, as.length = ps.length → EachIs (fun v (b : Addr × α) => v = Value.ref b.1) (as.map Value.ref) (as.zip ps)
  | [], [], _ => .nil
  | a :: as, p :: ps, h => .cons rfl (each_zip (Nat.succ.inj h))
theorem each_refs {α : Type} : ∀ {out : List Value} {bs : List (Addr × α)}, EachIs (fun v b => v = Value.ref b.1) out bs → out = (bs.map (·.1)).map Value.ref
  | _, _, .nil => rfl
  | _, _, .cons h t => by rw [List.map_cons, List.map_cons, ← each_refs t, h]
/-- the pairs' list sorted -/
theorem sort_pairs {H : Hp} {s : Shared} {A : Around} {E : Value → Shared → Prop} {B : Addr} {as : List Addr} {ps : List SS} {Q : Value → Shared → Prop} (I : Inv X pins σ H s) (hu : A.units + 4 < cLine) (hB : H B = some (.lst (as.map V.ref))) (hp : Paired (fun (t : Addr) (q : L2.Key × V) => H t = some (.tup [kV q.1, q.2])) as (enSS ps)) (hz : as.length ≤ sizeLine)
    (h : ∀ (ts : List Addr) s', (∀ t ∈ ts, t ∈ as) → Paired (fun (t : Addr) (q : SS) => H t = some (.tup [.str q.1, .str q.2])) ts (srtSS ps) → Inv X pins σ (upd H B (.lst (ts.map V.ref))) s' → Q .none s') : wpAny (model X.prog X.w) A (call (.builtin "list.sort") [.ref B]) Q E s := by
  obtain ⟨hz', its, n, rv, hob⟩ := I.hok B _ hB
  obtain rfl := refs_at rv
  have ll : as.length = ps.length := by have := Paired.length hp; rw [this]; unfold enSS; rw [List.length_map]
  have mem : ∀ b ∈ as.zip ps, H b.1 = some (.tup [.str b.2.1, .str b.2.2]) := by
    have go : ∀ {as : List Addr} {ps : List SS}, Paired (fun (t : Addr) (q : L2.Key × V) => H t = some (.tup [kV q.1, q.2])) as (enSS ps) → ∀ b ∈ as.zip ps, H b.1 = some (.tup [.str b.2.1, .str b.2.2]) := by
      intro as ps
      induction ps generalizing as with
      | nil => intro _ b hb; simp at hb
      | cons p ps ih =>
        intro hp b hb
        cases hp with
        | cons h1 h2 =>
          rw [List.zip_cons_cons] at hb
          rcases List.mem_cons.mp hb with rfl | hb
          · exact h1
          · exact ih h2 b hb
    exact go hp
  have rd : ∀ b ∈ as.zip ps, Reads s.heap (.ref b.1) (ssPy b.2) [] := fun b hb => by
    obtain ⟨_, its, r, o, h1, h2, n, h3⟩ := (show ObjOk X.prog X.w H s.heap b.1 (.tup [.str b.2.1, .str b.2.2]) from I.hok _ _ (mem b hb))
    obtain ⟨u, v, rfl, r1, r2⟩ := vals2 r
    obtain ⟨t1, rfl⟩ := r1
    obtain ⟨t2, rfl⟩ := r2
    exact .tuple h1 h2 h3 (.cons (as := []) (bs := []) (.str _ _) (.cons (as := []) (bs := []) (.str _ _) .nil))
  have er : EachIs (fun v (b : Addr × SS) => ∃ l, Reads s.heap v (ssPy b.2) l ∧ B ∉ l) (as.map Value.ref) (as.zip ps) := (PySem.W.each_mem (each_zip ll)).mono fun v b ⟨e, hb⟩ => by
    subst e
    exact ⟨[], rd b hb, by simp⟩
  refine PySem.W.list_sort_data (enc := fun b : Addr × SS => ssPy b.2) (vs := as.map Value.ref) hob (each_zip ll) er (PySem.W.AllAlike.of fun a b => by simp [ssPy, PySem.W.alike, PySem.W.alikeAll]) (PySem.W.Sortable.tuples fun a => ⟨_, _, rfl⟩) (by rw [List.length_zip, ← ll, Nat.min_self]; exact hz)
    (fun b _ => by show A.units + 1 + 1 < _; omega) fun out hlen eo => ?_
  obtain ⟨ep, he'⟩ := sortedHeap_at (vs := as.map Value.ref) (out := List.toArray out) hob
  have e1 := each_refs eo
  have sm : ((as.zip ps).mergeSort (dataLe false fun b : Addr × SS => ssPy b.2)).map (·.2) = srtSS ps := by
    unfold srtSS
    have := PySem.W.sort_maps (s := dataLe false ssPy) (r := dataLe false fun b : Addr × SS => ssPy b.2) (l := as.zip ps) (fun b : Addr × SS => b.2) fun a _ b _ => rfl
    rw [this, List.map_snd_zip (by omega)]
  have pm : ∀ b ∈ (as.zip ps).mergeSort (dataLe false fun b : Addr × SS => ssPy b.2), b ∈ as.zip ps := fun b hb => (List.mergeSort_perm _ _).mem_iff.mp hb
  have hlen2 : ((((as.zip ps).mergeSort (dataLe false fun b : Addr × SS => ssPy b.2)).map (·.1)).map V.ref).length ≤ sizeLine := by
    rw [List.length_map, List.length_map, List.length_mergeSort, List.length_zip, ← ll, Nat.min_self]
    exact hz
  refine h (((as.zip ps).mergeSort (dataLe false fun b : Addr × SS => ssPy b.2)).map (·.1)) _ (fun t ht => ?_) ?_ (I.write (e := B) (t' := s.toks) (by rw [hB]; trivial) (.inl rfl) (fun b u hb hu => ?_) ⟨_, he'⟩ ⟨hlen2, out, ep, ?_, he'⟩)
  · obtain ⟨b, hb, rfl⟩ := List.mem_map.mp ht
    exact (List.of_mem_zip (pm b hb)).1
  · rw [← sm]
    have go : ∀ L : List (Addr × SS), (∀ b ∈ L, b ∈ as.zip ps) → Paired (fun (t : Addr) (q : SS) => H t = some (.tup [.str q.1, .str q.2])) (L.map (·.1)) (L.map (·.2)) := fun L => by
      induction L with
      | nil => intro _; exact .nil
      | cons b L ih => exact fun hL => .cons (mem b (hL b List.mem_cons_self)) (ih fun c hc => hL c (List.mem_cons_of_mem _ hc))
    exact go _ pm
  · rw [sortedHeap_old hb (Heap.lt_size hu)]; exact hu
  · rw [e1]; exact LiI.vals_refs _
end
section
variable {X : Cx} {e : Expr} {te : TE} {p apos cpos pos : Pos}
theorem pe_sortItems (hc : X.calm = true) (hu : X.A.units + 8 < cLine) (he : PE X e te) (hg : Gl X "sorted") (hm : X.mg "sorted" = none) (hv : bootBuiltins "sorted" = some (.builtin "sorted")) (hbase : attributeBase e "items" X.env (eval e X.env) = eval e X.env := by rfl) (hline : (apos.endLine == cpos.line) = true := by rfl)
    (hs : starEach [.Call (.Attribute e "items" apos) [] [] cpos] X.env = (false, eval (.Call (.Attribute e "items" apos) [] [] cpos) X.env) :: starEach [] X.env := by rfl) :
    PE X (.Call (.Name "sorted" p) [.Call (.Attribute e "items" apos) [] [] cpos] [] pos) (tSortItems te) := by
  refine ⟨fun pins s σ H Q I hq => ?_⟩
  refine wpAny_Call_Name_kw (ld_blt I hg hm hv ?_)
  refine PyProof.Rows.callWith_builtin1 ?_ hs rfl
  rw [hs]
  show wpAny _ _ (spliced ((false, eval (.Call (.Attribute e "items" apos) [] [] cpos) X.env) :: backTo pos (starEach [] X.env))) _ _ s
  refine Calls.spliced_cons ?_
  refine wpAny_Call_method (T := "dict") (id := "dict.items") hbase rfl hline F.plainAttrs_dict F.slot_dict_items F.type_dict_items (thn (he.run pins s σ H _ I hq) fun u s1 ⟨x, H1, I1, rx, d, ps, ex, hd, q⟩ => ?_)
  subst ex
  obtain rfl : u = Value.ref d := rx
  obtain ⟨hz, hs0, vs, kv, hdo⟩ := I1.hok d _ hd
  obtain ⟨ep, hat⟩ := hdo.dictAt
  have lk : (enSS ps).length = vs.length := Paired.length kv
  have I2 : Inv X pins σ H1 { s1 with heap := s1.heap.push { cls := .type "dict_items", data := .fields #[.ref d] } } := I1.kept (t' := s1.toks) fun b ob q => Heap.get?_push_of_some _ q
  refine ⟨hdo.typeIs, hdo.mapOf.noDict, ?_⟩
  show wpAny _ _ (callWith cpos (.builtin "dict.items") [.ref d] [] []) _ X.xe s1
  refine method_meetsIn F.slot_dict_items F.entry_dict_items rfl (PySem.evalArgs_none ⟨rfl, hdo.typeIs, F.args_dict_items_1 _, _, meets_dict_items (mixKind X.prog X.w) d hs0, ⟨vs, hdo⟩, ?_⟩)
  refine Calls.spliced_nil ?_
  show wpAny _ _ (call (.builtin "sorted") [.ref s1.heap.objs.size]) _ _ _
  refine Calls.call_function_entry kind_sorted plain_sorted entry_sorted (args_sorted1 _) ?_
  unfold Builtin.«sorted»
  refine wpAny_bind (m := checkCount "sorted" 1 1 _) (wpAny_pure ?_)
  refine wpAny_bind (kdx_collect (knd := mixKind X.prog X.w) (kvs := vs) (ep := ep) (I1.ok.hd hc) ⟨_, Heap.get?_push_size _ rfl, rfl, rfl⟩ (hat.push _) (by omega) fun h' tk as hk hl hG => ?_)
  refine wpAny_bind (wpAny_newList ?_ (by rw [List.length_map, hl, ← lk]; exact hz))
  have hlo : ({ s1 with heap := s1.heap.push { cls := .type "dict_items", data := .fields #[.ref d] } } : Shared).heap.objs.size ≤ h'.objs.size := by
    have : s1.heap.objs.size < h'.objs.size := Heap.lt_size (hk s1.heap.objs.size _ (Heap.get?_push_size _ rfl))
    show (s1.heap.push _).objs.size ≤ _
    rw [Heap.size_push]
    exact this
  obtain ⟨H', k1, k2, k3, k4, k5, k6, J⟩ := items_laid2 (tk := tk) I2 hz kv hk hlo hl hG
  refine wpAny_bind (wpAny_holding (sort_pairs (ps := ps) J (by show X.A.units + 1 + 4 < _; omega) k5 k6 (by rw [hl, ← lk]; exact hz) fun ts0 s' hts pr I' => ?_))
  refine wpAny_pure ⟨_, rfl, .ref h'.objs.size, _, I', rfl, q _ _ ts0 (fun b o eb => ?_) k2 (fun t ht => k3 t (hts t ht)) (fun z => k4 (hts _ z)) upd_same ?_⟩
  · rw [upd_ne (fun z => by rw [z, k2] at eb; cases eb)]
    exact k1 b o eb
  · have go : ∀ {ts : List Addr} {qs : List SS}, h'.objs.size ∉ ts → Paired (fun (t : Addr) (q : SS) => H' t = some (.tup [.str q.1, .str q.2])) ts qs → Paired (fun (t : Addr) (q : SS) => upd H' h'.objs.size (.lst (ts0.map V.ref)) t = some (.tup [.str q.1, .str q.2])) ts qs := by
      intro ts qs hn hp
      induction hp with
      | nil => exact .nil
      | cons h1 h2 ih =>
        refine .cons ?_ (ih fun z => hn (List.mem_cons_of_mem _ z))
        rw [upd_ne fun z => hn (by rw [← z]; exact List.mem_cons_self)]
        exact h1
    exact go (fun z => k4 (hts _ z)) pr
end
end Pr

/-! tuples without attributes: written, tuple(list), dict(tuple of pairs); enumerate over a tuple -/
namespace Pr
open PySem PySem.Spec PyProof.Rows L2 LamX NdefX
section
variable {X : Cx} {e a : Expr} {es : List Expr} {te ta : TE} {t : TA} {pos p : Pos}
def kPtup (K : PySem.W.Frag) (x : V) (H : Hp) (Q : VK) : Prop :=
  ∃ p xs, x = .ref p ∧ SqL K H p xs ∧ ∀ (q : Addr) (o : Obj), H q = none → o.dict = none → Q (.ref q) (upd H q (.frz o (.tup xs)))
theorem rl_ptuple (pins : List (Addr × Obj)) (s : Shared) (σ : L2.St) (H : Hp) (x : V) (v : Value) (Q : VK) (I : Inv X pins σ H s) (r : RelV x v) (h : kPtup X.K x H Q) :
    wpAny (model X.prog X.w) X.A (call (.type "tuple") [v]) (EP X pins σ Q) X.xe s := by
  obtain ⟨p, xs, rfl, hs, q⟩ := h
  obtain rfl : v = .ref p := r
  obtain ⟨its, rv, pl, hz⟩ := I.list hs
  refine call_tuple_list pl.isList (fun h' hk => ?_) (by rw [List.size_toArray, ← rv.length]; exact hz)
  have I1 : Inv X pins σ H { s with heap := h' } := I.kept (t' := s.toks) hk
  have I2 : Inv X pins σ (upd H h'.objs.size (.frz { cls := .type "tuple", data := .seq its.toArray } (.tup xs))) { s with heap := h'.push { cls := .type "tuple", data := .seq its.toArray } } :=
    I1.laid (t' := s.toks) (fun b o e => Heap.get?_push_of_some _ e) (Nat.le_refl _) (show ObjOk X.prog X.w _ _ _ (.frz _ (.tup xs)) from ⟨Heap.get?_push_size _ rfl, hz, its, rv, IsTup.new _ _⟩)
  exact ⟨.ref h'.objs.size, upd H h'.objs.size (.frz _ (.tup xs)), I2, rfl, q _ _ (I1.hok.fresh (Nat.le_refl _)) rfl⟩
theorem pe_ptupleOf {K : PySem.W.Frag} (hK : X.K = K) (hg : Gl X "tuple") (hm : X.mg "tuple" = none) (ha : PE X a ta) (na : starEach [a] X.env = (false, eval a X.env) :: starEach [] X.env := by rfl) :
    PE X (.Call (.Name "tuple" p) [a] [] pos) (tThen ta (kPtup K)) := by
  subst hK
  refine ⟨fun pins s σ H Q I h => ?_⟩
  exact Call_ (ld_blt I hg hm boot_tuple (PyProof.Rows.callWith_type1 (L2.one_arg ha I h (fun v s2 x H2 I2 r q => rl_ptuple pins s2 σ H2 x v Q I2 r q) na) na))
/-! dict(tuple of pairs) -/
theorem pairs_of2 {pins : List (Addr × Obj)} {σ : L2.St} {H : Hp} {s : Shared} (I : Inv X pins σ H s) : ∀ {ps : List Addr} {kvs : List (L2.Key × V)}, Paired (fun p kv => SqT X.K H p [kV kv.1, kv.2]) ps kvs →
    ∃ (prs : List (L2.Key × Value)) (vals : List (Value × Value)), KV kvs prs ∧ prs.length = ps.length ∧ vals.length = ps.length ∧ ∀ (j : Nat) (u v : Value), vals[j]? = some (u, v) → ∃ (b : Addr) (k : L2.Key), ps[j]? = some b ∧ prs[j]? = some (k, v) ∧ IsTup s.heap b #[u, v] ∧ keyIs k u = true
  | _, _, .nil => ⟨[], [], .nil, rfl, rfl, fun j u v e => by simp at e⟩
  | _, _, .cons (a := p) (b := kv) h t => by
    obtain ⟨prs, vals, r, hl, hl2, hp⟩ := pairs_of2 I t
    obtain ⟨its, rv, ht, _⟩ := I.tuple h
    obtain ⟨u, y, ei, ru, ry⟩ := vals2 rv
    subst ei
    refine ⟨(kv.1, y) :: prs, (u, y) :: vals, .cons ⟨rfl, ry⟩ r, by rw [List.length_cons, List.length_cons, hl], by rw [List.length_cons, List.length_cons, hl2], fun j u' v' e => ?_⟩
    cases j with
    | zero =>
      have e' : (u, y) = (u', v') := Option.some.inj e
      cases e'
      exact ⟨p, kv.1, rfl, rfl, ht, kV_is (P := X.prog) (w := X.w) ru⟩
    | succ j =>
      obtain ⟨b, k, e1, e2, e3, e4⟩ := hp j u' v' (by simpa using e)
      exact ⟨b, k, by simpa using e1, by simpa using e2, e3, e4⟩
theorem call_dictPT {K : PySem.W.Frag} (hK : X.K = K) (hcalm : X.calm = true) : CallR X (.type "dict") (fun xs H Q => ∃ (a : Addr) (o : Obj) (ps : List Addr) (kvs : List (L2.Key × V)), xs = [.ref a] ∧ o.dict = none ∧ H a = some (.frz o (.tup (ps.map V.ref))) ∧ Paired (fun p kv => SqT K H p [kV kv.1, kv.2]) ps kvs ∧
    ∀ p, H p = none → Q (.ref p) (upd H p (.dK (mergeK [] kvs)))) := by
  subst hK
  intro pins s σ H xs us Q I r q
  obtain ⟨a, o, ps, kvs, ex, od, hq, hp, q⟩ := q
  subst ex
  obtain ⟨u, eu, rx⟩ := vals1 r
  subst eu
  cases rx
  obtain ⟨ho, hz, its, rv, ht⟩ := (show ObjOk X.prog X.w H s.heap a (.frz o (.tup (ps.map V.ref))) from I.hok _ _ hq)
  obtain rfl := refs_at rv
  obtain ⟨o', ho', hc, n, hd⟩ := ht
  rw [ho] at ho'
  cases ho'
  rw [List.length_map] at hz
  obtain ⟨prs, vals, rel, hl, hl2, hpr⟩ := pairs_of2 I hp
  refine PySem.call_dict_pairs (knd := mixKind X.prog X.w) (kvs := prs) (PairArg.tuple a (ps.map Value.ref).toArray (fun j => (ps[j]?).getD 0) vals) (I.ok.hd hcalm) ⟨⟨o, n, ho, hc, od, hd⟩, by simp [hl2], fun j k v e => ?_⟩ ⟨by rw [hl, hl2], fun i key v e => ?_⟩ (by rw [hl2]; exact hz) fun h' tk hd' k => ?_
  · obtain ⟨b, k', e1, e2, e3, e4⟩ := hpr j k v e
    refine ⟨by simp [e1], ?_⟩
    show PairAt s.heap ((ps[j]?).getD 0) k v
    rw [e1]
    exact .inl e3
  · obtain ⟨b, k', e1, e2, e3, e4⟩ := hpr i key v e
    exact ⟨k', e2, e4⟩
  · have hm : (s.heap.objs.size == sysModules) = false := beq_eq_false_iff_ne.mpr (Nat.ne_of_gt I.big)
    have hlen : (mergeK [] kvs).length ≤ sizeLine := by
      refine Nat.le_trans (length_mergeK kvs []) ?_
      rw [List.length_nil, Nat.zero_add, rel.length, hl]
      exact hz
    exact ⟨.ref s.heap.objs.size, upd H s.heap.objs.size (.dK (mergeK [] kvs)), I.laid (t' := tk) (fun b o e => k b o (by simp) e) (Nat.le_refl _) (show ObjOk X.prog X.w _ _ _ (.dK (mergeK [] kvs)) from ⟨hlen, hm, merged [] prs, KV.merge rel .nil, hd'⟩), rfl, q _ (I.hok.fresh (Nat.le_refl _))⟩
end
end Pr
namespace Dn
open PySem PySem.Spec PyProof.Rows L2 Pr
@[reducible] def dPtupOf (a : DTE) : DTE := fun δ S q => a δ S fun x S1 => seeL x S1 fun l => q (.ptp l) S1
@[reducible] def rcPairsPF : DCr := fun xs S q => match xs with
  | [.ptp l] => ∃ m : List (Key × Dt), l = (m.map fun p => Dt.tup [keyD p.1, p.2]) ∧ q (.dic (kMerge [] m)) S
  | _ => False
section
variable {X : Cx} {K : PySem.W.Frag} {E : XK} {e : DX} {a : Expr} {es : List Expr} {ts : DTA} {da : DTE} {pos p : Pos}
theorem de_ptupOf (hK : X.K = K) (hg : Gl X "tuple") (hm : X.mg "tuple" = none) (ha : PE X a (tD K E e da)) (na : starEach [a] X.env = (false, eval a X.env) :: starEach [] X.env := by rfl) :
    PE X (.Call (.Name "tuple" p) [a] [] pos) (tD K E e (dPtupOf da)) := PE.imp (pe_ptupleOf (p := p) (pos := pos) hK hg hm ha na) fun σ H Q h => by
  refine tD_seq (f := fun x S q => seeL x S fun l => q (.ptp l) S) h fun v x δ S Z H1 q t r h k => ?_
  obtain ⟨a, vs, l, rfl, h1, h2, h3⟩ := see_lst t.good r h
  exact ⟨a, vs, rfl, SqL.of h1, fun p o np no => k.new t.good np h3 ⟨p, vs, rfl, ⟨o, no, out_new t.good np⟩, Reps.ext (ext_new t.good np) _ _ h2⟩⟩
theorem cd_pairsPF (hK : X.K = K) (hc : X.calm = true) : CallR X (.type "dict") (rDC K rcPairsPF) := fun pins s σ H xs us Q I r ⟨ds, S, Z, q, g, rs, h, k⟩ => by
  match ds, h with
  | [.ptp l], h =>
    obtain ⟨m, rfl, h3⟩ := h
    obtain ⟨v, rfl, rv⟩ := reps1 rs
    obtain ⟨a, vs, rfl, ⟨o, no, h1⟩, h2⟩ := rv
    obtain ⟨ps, kvs, rfl, h4, h5⟩ := pairs_rep h2
    exact call_dictPT hK hc pins s σ H _ us Q I r ⟨a, o, ps, kvs, rfl, no, out_le h1, h4, fun p np => k.new g np h3 ⟨p, _, rfl, .inl (out_new g np), Repk.kr.mpr (KR.merge .nil (h5.ext (ext_new g np)))⟩⟩
end
end Dn

/-! enumerate over a tuple, range of three, sorted of dicts by ints, of their values, of items; list + list that will change -/
namespace Pr
open PySem PySem.Spec PyProof.Rows L2 LamX NdefX
/-! enumerate over a tuple -/
end Pr

/-! their rules over deep values -/
namespace Pr
open PySem PySem.Spec PyProof.Rows L2 LamX NdefX
section
variable {X : Cx} {e : Expr} {te : TE} {ta : TA} {p pos tpos apos cpos : Pos} {elts : List Expr} {kk : Nat}
end
end Pr
namespace Dn
open PySem PySem.Spec PyProof.Rows L2 Pr
section
variable {X : Cx} {K : PySem.W.Frag} {E : XK} {e : DX} {a b c ex : Expr} {es : List Expr} {ts : DTA} {da : DTE} {pos p tpos apos cpos : Pos} {elts : List Expr} {kk : Nat} {tg : Expr}
/-! range(i, j, -1) -/
/-! sorted of a dict with ints as keys -/
/-! sorted(d.values()) -/
/-! sorted(d.items()) of a dict text to text -/
@[reducible] def ssD (p : SS) : Dt := .tup [.str p.1, .str p.2]
def encSS (l : List SS) : List (Key × Dt) := l.map fun p => (Sum.inr p.1, Dt.str p.2)
theorem Good.kept {Z H H' : Hp} {S : Store} (g : Good K Z H S) (h : ∀ b o, H b = some o → H' b = some o) : Good K Z H' S ∧ Ext (out H S Z) (out H' S Z) := by
  have x : Ext (out H S Z) (out H' S Z) := Ext.of fun b o e => by
    obtain ⟨h1, h2, h3⟩ := out_some e
    rw [out_of h1 h2]
    exact h b o h3
  refine ⟨⟨fun b o e => ⟨h b o (g.z b o e).1, (g.z b o e).2⟩, fun a c e => ?_⟩, x⟩
  obtain ⟨o, h1, h2⟩ := g.c a c e
  exact ⟨o, h a o h1, CRep.ext x _ _ h2⟩
@[reducible] def dSortItems (da : DTE) : DTE := fun δ S q => da δ S fun x S1 => match x with
  | .ref a => ∃ l, S1 a = some (.dic l) ∧ ∃ ps : List SS, l = encSS ps ∧ q (.lst ((srtSS ps).map ssD)) S1
  | _ => False
theorem ss_rep {G : Hp} {ps : List SS} {kvs : List (Key × V)} (h : KR KOk K G (encSS ps) kvs) : kvs = enSS ps ∧ ∀ p ∈ ps, SOk p.1 ∧ SOk p.2 := by
  induction ps generalizing kvs with
  | nil => cases h; exact ⟨rfl, fun _ z => by cases z⟩
  | cons p ps ih =>
    cases h with
    | @cons _ q _ m h t =>
      obtain ⟨e, ok⟩ := ih t
      obtain ⟨h1, h2, h3, h4⟩ := h
      obtain ⟨q1, q2⟩ := q
      cases h1
      cases h3
      refine ⟨by rw [e]; rfl, fun x hx => ?_⟩
      rcases List.mem_cons.mp hx with rfl | hx
      · exact ⟨h2, h4⟩
      · exact ok x hx
theorem de_sortItems (hc : X.calm = true) (hu : X.A.units + 8 < cLine) (he : PE X ex (tD K E e da)) (hg : Gl X "sorted") (hm : X.mg "sorted" = none) (hv : bootBuiltins "sorted" = some (.builtin "sorted")) (hbase : attributeBase ex "items" X.env (eval ex X.env) = eval ex X.env := by rfl) (hline : (apos.endLine == cpos.line) = true := by rfl)
    (hs : starEach [.Call (.Attribute ex "items" apos) [] [] cpos] X.env = (false, eval (.Call (.Attribute ex "items" apos) [] [] cpos) X.env) :: starEach [] X.env := by rfl) :
    PE X (.Call (.Name "sorted" p) [.Call (.Attribute ex "items" apos) [] [] cpos] [] pos) (tD K E e (dSortItems da)) := PE.imp (pe_sortItems hc hu he hg hm hv hbase hline hs) fun σ H Q h => by
  obtain ⟨δ, S, Z, q, t, h, k⟩ := h
  refine ⟨δ, S, Z, _, t, h, fun v x H1 S1 g1 x1 r1 h1 => ?_⟩
  cases x with
  | ref a =>
    obtain ⟨l, h2, ps, rfl, h5⟩ := h1
    obtain ⟨o, h6, kvs, rfl, h7⟩ := g1.c a _ h2
    obtain ⟨rfl, ok⟩ := ss_rep (Repk.kr.mp h7)
    refine ⟨a, ps, r1, h6, fun H' p ts hk np nt hp e1 e2 => ?_⟩
    obtain ⟨g2, x2⟩ := g1.kept hk
    refine k _ (.lst ((srtSS ps).map ssD)) _ S1 g2 (x1.trans x2) ⟨p, ts.map V.ref, rfl, ?_, ?_⟩ h5
    · rw [out_of (g1.nS np) (g1.nZ np)]
      exact e1
    · have ok2 : ∀ p ∈ srtSS ps, SOk p.1 ∧ SOk p.2 := fun p hp => ok p ((List.mergeSort_perm _ _).mem_iff.mp hp)
      have go : ∀ (qs : List SS) (ts : List Addr), (∀ t ∈ ts, H1 t = none) → (∀ p ∈ qs, SOk p.1 ∧ SOk p.2) → Paired (fun (t : Addr) (q : SS) => H' t = some (.tup [.str q.1, .str q.2])) ts qs → Reps K (out H' S1 Z) (qs.map ssD) (ts.map V.ref) := by
        intro qs ts nt ok hp
        induction hp with
        | nil => exact rfl
        | @cons t q ts qs h1 h2 ih =>
          obtain ⟨o1, o2⟩ := ok q List.mem_cons_self
          refine ⟨.ref t, _, rfl, ⟨t, _, rfl, SqT.of ?_, _, _, rfl, ⟨rfl, o1⟩, _, _, rfl, ⟨rfl, o2⟩, rfl⟩, ih (fun b hb => nt b (List.mem_cons_of_mem _ hb)) fun p hp => ok p (List.mem_cons_of_mem _ hp)⟩
          have n := nt t List.mem_cons_self
          rw [out_of (g1.nS n) (g1.nZ n)]
          exact h1
      exact go _ ts nt ok2 e2
  | _ => exact h1.elim
/-! list + list, to change -/
@[reducible] def rAddO : D2 := fun dx dy S q => seeL dx S fun a => seeL dy S fun b => a.length + b.length ≤ sizeLine ∧ ∀ p, S p = none → q (.ref p) (sput S p (.lst (a ++ b)))
theorem od_addO : OpR X (binaryOp .Add) (rD K rAddO) := fun pins s σ H x y v u Q I rv ru ⟨dx, dy, S, Z, q, g, rx, ry, h, k⟩ => by
  obtain ⟨a, xs, l, rfl, ha, ra, h⟩ := see_lst g rx h
  obtain ⟨b, ys, m, rfl, hb, rb, hl, h⟩ := see_lst g ry h
  exact op_cat pins s σ H _ _ v u Q I rv ru ⟨a, b, xs, ys, rfl, rfl, ha, hb, by rw [← ra.len, ← rb.len]; exact hl, fun p np => k.own g np (h p (g.nS np)) ⟨_, rfl, Reps.pair.mpr (Paired.app (Reps.pair.mp ra) (Reps.pair.mp rb))⟩⟩
/-! len of what stands still -/
end
end Dn
namespace Dn
open PySem PySem.Spec PyProof.Rows L2 Pr
theorem hI_of {A : Around} {k : Nat} (hr : Room k A) : A.units + 8 < cLine := by
  have := hr.un
  omega
/-- a promise that holds of nothing -/
theorem fn_no {P : Program} {w : World} {K : PySem.W.Frag} {mg : Str → Option Value} {base : Heap} {x qual : Str} {params : Arguments} {body : List Stmt} {scope : Scope} {dvs : List V} {f : Addr} {fd : FuncData} {N ps : List Str} {k : Nat}
    {c : DSp} {kws : List (Str × V)} (F : FunD K x qual params body scope dvs kws f fd) (S : FnScope N ps scope) (no : ∀ ds S q e, ¬ c ds S q e) : FnOk P w K mg base (L2.CX P w) (k + 1) f fd ps (spD K c) := by
  refine F.ok S (fun vs H Q E h => ?_) (fun cdv A outer s H vs Q E hr h => ?_)
  · obtain ⟨ds, S, Z, q, e, g, r, l, h, k⟩ := h
    exact absurd h (no _ _ _ _)
  · obtain ⟨ds, S', Z, q, e, g, r, l, h, kk⟩ := h
    exact absurd h (no _ _ _ _)
end Dn

/-! what is walked may be a list or a tuple -/
namespace Pr
open PySem PySem.Spec PyProof.Rows L2 LamX NdefX
end Pr
namespace Dn
open PySem PySem.Spec PyProof.Rows L2 Pr
section
variable {X : Cx} {K : PySem.W.Frag} {E : XK} {e : DX} {ex tg : Expr} {da : DTE}
end
end Dn

/-! instances compared; index of one; an item taken out; setdefault -/
namespace Pr
open PySem PySem.Spec PyProof.Rows L2 PySem.SeqAt
section
variable {prg : Program} {wo : World} {Ar : Around} {Er : Value → Shared → Prop} {s : Shared} {K : PySem.W.Frag} {x y C : Addr} {ox oy : Obj} {od oe : Option Obj}
end
section
variable {X : Cx}
end
end Pr

/-! list.remove of data -/
namespace Pr
open PySem PySem.Spec PyProof.Rows L2 PySem.SeqAt PySem.MeetsSeq
open MeetsSeq2 MeetsSeq3 SeqRoads2
section
variable {X : Cx}
end
end Pr

/-! their rules over deep values -/
namespace Dn
open PySem PySem.Spec PyProof.Rows L2 Pr
section
variable {X : Cx} {K : PySem.W.Frag} {E : XK} {e : DX} {apos cpos : Pos} {a b c : Expr} {da db dc : DTE}
end
end Dn

/-! comprehensions with two sources -/
namespace Dn
open PySem PySem.Spec PyProof.Rows L2 Pr
def dLc2 (it it1 : DTL) (g g1 : DTG) (w w1 : List Nat) (tt tt1 : DTT) (te : DTE) (q : List Dt → Store → Prop) : DS → Store → Prop := fun δ S => it δ S fun l keep S1 => ∃ I : Nat → List Dt → Store → Prop, I 0 [] S1 ∧ (∀ i acc S, i ≤ l.length → I i acc S → keep S) ∧
  (∀ i d acc S, l[i]? = some d → I i acc S → g d (wipesS δ w) S fun δ' S' => tt δ' S' fun b S2 => Ift b (it1 δ' S2 fun l1 keep1 S3 => ∃ J : Nat → List Dt → Store → Prop, J 0 acc S3 ∧ (∀ j acc S, j ≤ l1.length → J j acc S → keep1 S) ∧
    (∀ j d1 acc S, l1[j]? = some d1 → J j acc S → g1 d1 (wipesS δ' w1) S fun δ'' S4 => tt1 δ'' S4 fun b S5 => Ift b (te δ'' S5 fun y S6 => acc.length < sizeLine ∧ J (j + 1) (acc ++ [y]) S6) (J (j + 1) acc S5)) ∧ ∀ acc S, J l1.length acc S → I (i + 1) acc S) (I (i + 1) acc S2)) ∧
  ∀ acc S, I l.length acc S → q acc S
@[reducible] def dLcF2 (it it1 : DTL) (g g1 : DTG) (w w1 : List Nat) (tt tt1 : DTT) (te : DTE) : DTE := fun δ S q => dLc2 it it1 g g1 w w1 tt tt1 te (fun l S' => q (.lst l) S') δ S
section
variable {K : PySem.W.Frag} {E : XK} {e : DX}
theorem lc2_run {it it1 : DTL} {g gg : DTG} {tt tt1 : DTT} {te : DTE} {vs vs1 : List Nat} {qL : List Dt → Store → Prop} {σ : L2.St} {H : Hp} {Q : VK} {δ : DS} {S : Store} {Z : Hp}
    (t : At K E e Z H S σ δ) (h : dLc2 it it1 g gg vs vs1 tt tt1 te qL δ S)
    (fin : ∀ D accV acc H' S', Z D = none → Good K (upd Z D (.lst accV)) H' S' → Ext (out H S Z) (out H' S' (upd Z D (.lst accV))) → Reps K (out H' S' (upd Z D (.lst accV))) acc accV → qL acc S' → Q (.ref D) H') :
    tLc2 (tDI K E e it) (tGw K vs g) (tDT K E0 noX tt) (tDI K E0 noX it1) (tGw K vs1 gg) (tDT K E0 noX tt1) (tD K E0 noX te) vs vs1 σ H Q := by
  refine ⟨δ, S, Z, _, t, h, fun l keep H1 S1 J g1 x1 ok h1 => ?_⟩
  obtain ⟨I, h0, hk, hs, hd⟩ := h1
  intro D nD
  have nZ := g1.nZ nD
  have sl1 := t.sl.ext x1
  refine ⟨fun i m H => m = l.length - i ∧ i ≤ l.length ∧ ∃ S acc accV, Good K (upd Z D (.lst accV)) H S ∧ Ext (out H1 S1 Z) (out H S (upd Z D (.lst accV))) ∧ Reps K (out H S (upd Z D (.lst accV))) acc accV ∧ I i acc S,
    ⟨_, rfl, Nat.zero_le _, S1, [], [], g1.hide nD, by rw [hide_out g1 nD]; exact Ext.refl, rfl, h0⟩, fun i m H ⟨hm, hi, S2, acc, accV, g2, x2, r2, q2⟩ => ?_⟩
  by_cases en : i = l.length
  · subst en
    exact .inl ⟨ok.stop _ H S2 g2 x2 (hk _ acc S2 hi q2), fin D accV acc H S2 nZ g2 (x1.trans x2) r2 (hd acc S2 q2)⟩
  have hi2 : i < l.length := by omega
  refine .inr ⟨ok.go _ i H S2 g2 x2 (hk i acc S2 hi q2) hi2, fun H' => ∃ S acc accV, Good K (upd Z D (.lst accV)) H' S ∧ Ext (out H1 S1 Z) (out H' S (upd Z D (.lst accV))) ∧ Reps K (out H' S (upd Z D (.lst accV))) acc accV ∧ I (i + 1) acc S,
    fun H' z => ⟨l.length - (i + 1), by omega, rfl, by omega, z⟩, fun x H' y => ?_⟩
  obtain ⟨d, e1, g3, x3, r3⟩ := ok.yld _ i H S2 x H' g2 x2 (hk i acc S2 hi q2) hi2 y
  have x23 := x2.trans x3
  refine ⟨d, _, S2, _, _, g3, slots_wipes (sl1.ext x23) vs, r3, hs i d acc S2 e1 q2, fun σ' δ' H4 S4 w4 g4 x4 s4 h4 => ?_⟩
  refine ⟨by rw [w4, lc_run.wipe_wipe], δ', S4, _, _, ⟨g4, s4, lk_no⟩, h4, fun b H5 S5 g5 x5 h5 => ?_⟩
  have x45 := x4.trans x5
  cases b with
  | false => exact iteF ⟨S5, acc, accV, g5, x23.trans x45, Reps.ext (x3.trans x45) _ _ r2, h5⟩
  | true =>
    refine iteT ⟨δ', S5, _, _, ⟨g5, s4.ext x5, lk_no⟩, h5, fun l1 keep1 H6 S6 J1 g6 x6 ok1 h6 => ?_⟩
    have x46 := x45.trans x6
    obtain ⟨Ji, j0, jk, js, jd⟩ := h6
    have sl6 := s4.ext (x5.trans x6)
    have out6 : ∀ {H7 : Hp} {S7 : Store} {aV : List V}, Ext (out H6 S6 (upd Z D (.lst accV))) (out H7 S7 (upd Z D (.lst aV))) → Ext (out H1 S1 Z) (out H7 S7 (upd Z D (.lst aV))) := fun z => (x23.trans x46).trans z
    refine ⟨fun j k H => k = l1.length - j ∧ j ≤ l1.length ∧ ∃ S ac aV, Good K (upd Z D (.lst aV)) H S ∧ Ext (out H6 S6 (upd Z D (.lst accV))) (out H S (upd Z D (.lst aV))) ∧ Reps K (out H S (upd Z D (.lst aV))) ac aV ∧ Ji j ac S,
      ⟨_, rfl, Nat.zero_le _, S6, acc, accV, g6, Ext.refl, Reps.ext (x3.trans x46) _ _ r2, j0⟩, fun j k H ⟨hm1, hj, S7, ac, aV, g7, x7, r7, q7⟩ => ?_⟩
    by_cases en1 : j = l1.length
    · subst en1
      exact .inl ⟨ok1.stop _ H S7 g7 x7 (jk _ ac S7 hj q7), S7, ac, aV, g7, out6 x7, r7, jd ac S7 q7⟩
    have hj2 : j < l1.length := by omega
    refine .inr ⟨ok1.go _ j H S7 g7 x7 (jk j ac S7 hj q7) hj2, fun H' => ∃ S ac aV, Good K (upd Z D (.lst aV)) H' S ∧ Ext (out H6 S6 (upd Z D (.lst accV))) (out H' S (upd Z D (.lst aV))) ∧ Reps K (out H' S (upd Z D (.lst aV))) ac aV ∧ Ji (j + 1) ac S,
      fun H' z => ⟨l1.length - (j + 1), by omega, rfl, by omega, z⟩, fun x1' H8 y8 => ?_⟩
    obtain ⟨d1, e8, g8, x8, r8⟩ := ok1.yld _ j H S7 x1' H8 g7 x7 (jk j ac S7 hj q7) hj2 y8
    have x78 := x7.trans x8
    refine ⟨d1, _, S7, _, _, g8, slots_wipes (sl6.ext x78) vs1, r8, js j d1 ac S7 e8 q7, fun σ3 δ3 H9 S9 w9 g9 x9 s9 h9 => ?_⟩
    refine ⟨by rw [w9, lc_run.wipe_wipe], δ3, S9, _, _, ⟨g9, s9, lk_no⟩, h9, fun b H10 S10 g10 x10 h10 => ?_⟩
    have x910 := x9.trans x10
    cases b with
    | false => exact iteF ⟨S10, ac, aV, g10, x78.trans x910, Reps.ext (x8.trans x910) _ _ r7, h10⟩
    | true =>
      refine iteT ⟨δ3, S10, _, _, ⟨g10, s9.ext x10, lk_no⟩, h10, fun v z H11 S11 g11 x11 r11 h11 => ?_⟩
      have x911 := x910.trans x11
      have r12 := Reps.ext (x8.trans x911) _ _ r7
      obtain ⟨hl, h11⟩ := h11
      refine ⟨aV, g11.at, by rw [← r12.len]; exact hl, S11, ac ++ [z], aV ++ [v], g11.rehide, ?_, ?_, h11⟩
      · rw [rehide_out (o := .lst aV)]
        exact x78.trans x911
      · rw [rehide_out (o := .lst aV)]
        exact Reps.pair.mpr (Paired.app (Reps.pair.mp r12) (.cons r11 .nil))
theorem lc2_frozen {it it1 : DTL} {g gg : DTG} {tt tt1 : DTT} {te : DTE} {vs vs1 : List Nat} {σ : L2.St} {H : Hp} {Q : VK} (h : tD K E e (dLcF2 it it1 g gg vs vs1 tt tt1 te) σ H Q) :
    tLc2 (tDI K E e it) (tGw K vs g) (tDT K E0 noX tt) (tDI K E0 noX it1) (tGw K vs1 gg) (tDT K E0 noX tt1) (tD K E0 noX te) vs vs1 σ H Q := by
  obtain ⟨δ, S, Z, q, t, h, k⟩ := h
  refine lc2_run t h fun D accV acc H' S' nz g x r q' => ?_
  refine k _ (.lst acc) _ S' (g.bare nz) (x.trans (bare_ext g nz)) ⟨D, accV, rfl, ?_, Reps.ext (bare_ext g nz) _ _ r⟩ q'
  rw [out_of g.noS nz]
  exact g.at
end
section
variable {X : Cx} {K : PySem.W.Frag} {E : XK} {e : DX} {pos spos py : Pos} {elt tg iter tg1 iter1 : Expr} {ifs ifs1 : List Expr} {scope : Scope} {own : List (Str × Nat)} {it it1 : DTL} {g gg : DTG} {tt tt1 : DTT} {te : DTE} {vs1 : List Nat}
theorem ds_setLc2 {i : Nat} {y : Str} (calm : X.calm = true) (hN : X.N.Nodup) (hy : X.N[i]? = some y) (hyl : X.env.scope.names.lookup y = some .local) (hsw : swapsWith (.ListComp elt [⟨tg, iter, ifs, 0⟩, ⟨tg1, iter1, ifs1, 0⟩] scope pos) (some (.Name y py)) spos.line X.env = pure true)
    (hi : PI X tg iter (tDI K E e it)) (ok : BlkOk X.N X.env.scope scope own) (hv : ∀ i ∈ vs1, i ∈ snds own)
    (hg : ∀ (s : Shared) (H : Hp) (C : Addr) (cl : List (Str × Addr)) (fp : List Addr), PG (X.blk s H scope (compEnvC scope cl C X.env) fp) tg (tGw K (snds own) g))
    (ht : ∀ (s : Shared) (H : Hp) (C : Addr) (cl : List (Str × Addr)) (fp : List Addr), PTs (X.blk s H scope (compEnvC scope cl C X.env) fp) ifs (tDT K E0 noX tt))
    (hi1 : ∀ (s : Shared) (H : Hp) (C : Addr) (cl : List (Str × Addr)) (fp : List Addr), PI (X.blk s H scope (compEnvC scope cl C X.env) fp) tg1 iter1 (tDI K E0 noX it1))
    (hg1 : ∀ (s : Shared) (H : Hp) (C : Addr) (cl : List (Str × Addr)) (fp : List Addr), PG (X.blk s H scope (compEnvC scope cl C X.env) fp) tg1 (tGw K vs1 gg))
    (ht1 : ∀ (s : Shared) (H : Hp) (C : Addr) (cl : List (Str × Addr)) (fp : List Addr), PTs (X.blk s H scope (compEnvC scope cl C X.env) fp) ifs1 (tDT K E0 noX tt1))
    (he : ∀ (s : Shared) (H : Hp) (C : Addr) (cl : List (Str × Addr)) (fp : List Addr), PE (X.blk s H scope (compEnvC scope cl C X.env) fp) elt (tD K E0 noX te)) (hs : ∀ x, foldedSetIterable iter X.env x = pure x := by intro _; rfl) (hs1 : ∀ env x, foldedSetIterable iter1 env x = pure x := by intro _ _; rfl) :
    PS X (.Assign [.Name y py] (.ListComp elt [⟨tg, iter, ifs, 0⟩, ⟨tg1, iter1, ifs1, 0⟩] scope pos) spos) (tDS K E e (dAsg (dLcF2 it it1 g gg (snds own) vs1 tt tt1 te) (dName i))) := by
  rw [snds_eq] at hg hv ⊢
  exact PS.imp (ps_setLc2 calm hN hy hyl hsw hi ok hv hg ht hi1 hg1 ht1 he hs hs1) fun D σ H h => by
    obtain ⟨δ, S, Z, DD, t, h, k⟩ := h
    exact lc2_frozen ⟨δ, S, Z, _, t, h, fun v x H1 S1 g1 x1 r1 h1 => k.nx _ _ _ _ g1 x1 ((t.sl.ext x1).put r1) h1⟩
end
end Dn

/-! a lambda with parameters that is handed to a def and called there -/
namespace Pr
open PySem PySem.Spec PyProof.Rows L2 LamX NdefX
section
variable {P : Program} {w : World} {K : PySem.W.Frag} {mg : Str → Option Value} {base : Heap} {k j : Nat} {f : Addr} {F : NF} {b : Expr} {ps fr N : List Str} {sp : List V → List (Option V) → Hp → VK → XK → Prop}
end
end Pr

/-! the same over deep values; what is captured is a thing at an address -/
namespace Dn
open PySem PySem.Spec PyProof.Rows L2 Pr LamX NdefX
section
variable {P : Program} {w : World} {K : PySem.W.Frag} {mg : Str → Option Value} {base : Heap} {k j : Nat} {f : Addr} {F : NF} {b : Expr} {ps fr : List Str}
end
section
variable {X : Cx} {K : PySem.W.Frag} {E : XK} {e : DX}
end
section
variable {P : Program} {w : World} {K : PySem.W.Frag} {mg : Str → Option Value} {base : Heap} {k : Nat} {x qual : Str} {params : Arguments} {body : List Stmt} {scope : Scope} {dvs : List V} {kws : List (Str × V)} {f : Addr} {fd : FuncData} {N ps fr : List Str}
end
section
variable {X : Cx} {K : PySem.W.Frag} {E : XK} {e : DX}
end
end Dn

/-! isinstance of an own class; frames; while and for by invariants -/
namespace Dn
open PySem PySem.Spec PyProof.Rows L2 Pr
section
variable {X : Cx} {K : PySem.W.Frag}
end
/-! ## l[::-1] -/
@[reducible] def dRev (a : DTE) : DTE := fun δ S q => a δ S fun x S1 => seeL x S1 fun l => q (.lst l.reverse) S1
section
variable {X : Cx} {K : PySem.W.Frag} {E : XK} {e : DX} {a : Expr} {da : DTE} {k : Nat} {p1 p2 p3 pos : Pos}
theorem de_rev (hK : X.K = K) (ha : PE X a (tD K E e da)) : PE X (.Subscript a (.Slice none none (some (.UnaryOp .USub (.Constant (.int 1) k p1) p2)) p3) pos) (tD K E e (dRev da)) := by
  subst hK
  refine PE.imp (pe_revL ha) fun σ H Q h => ?_
  obtain ⟨δ, S, Z, q, t, h, k⟩ := h
  refine ⟨δ, S, Z, _, t, h, fun v x H1 S1 g1 x1 r1 h1 => ?_⟩
  obtain ⟨a, vs, l, rfl, h2, h3, h4⟩ := see_lst g1 r1 h1
  exact ⟨a, vs, rfl, SqL.of h2, fun p np => (k.ext x1).new g1 np h4 ⟨p, _, rfl, out_new g1 np, Reps.pair.mpr (Paired.rev (Reps.pair.mp (Reps.ext (ext_new g1 np) _ _ h3)))⟩⟩
end
/-! ## l += ys, a list of one's own -/
/-! ## what stands still -/
def Hold (bad : List Addr) (S S' : Store) : Prop := ∀ b ∈ bad, ∀ c, S b = some c → S' b = some c
theorem Hold.refl {bad : List Addr} {S : Store} : Hold bad S S := fun _ _ _ h => h
theorem Hold.trans {bad : List Addr} {S T U : Store} (h : Hold bad S T) (k : Hold bad T U) : Hold bad S U := fun b hb c e => k b hb c (h b hb c e)
theorem Hold.put {bad : List Addr} {S S' : Store} {p : Addr} {c : Cell} (h : Hold bad S S') (hp : p ∉ bad) : Hold bad S (sput S' p c) := fun b hb d e => by
  have n : b ≠ p := fun z => hp (z ▸ hb)
  rw [sput_ne n]
  exact h b hb d e
theorem Hold.new {bad : List Addr} {S S' : Store} {p : Addr} {c : Cell} (h : Hold bad S S') (hp : S p = none) : Hold bad S (sput S' p c) := fun b hb d e => by
  by_cases z : b = p
  · rw [z, hp] at e; cases e
  · rw [sput_ne z]; exact h b hb d e
theorem Hold.sub {bad bad' : List Addr} {S S' : Store} (h : Hold bad S S') (hs : ∀ b ∈ bad', b ∈ bad) : Hold bad' S S' := fun b hb c e => h b (hs b hb) c e
def Le (S S' : Store) : Prop := ∀ a c, S a = some c → S' a = some c
theorem Le.refl {S : Store} : Le S S := fun _ _ h => h
theorem Le.trans {S T U : Store} (h : Le S T) (k : Le T U) : Le S U := fun a c e => k a c (h a c e)
theorem Le.put {S S' : Store} {p : Addr} {c : Cell} (h : Le S S') (hp : S p = none) : Le S (sput S' p c) := fun a d e => by
  by_cases z : a = p
  · rw [z, hp] at e; cases e
  · rw [sput_ne z]; exact h a d e
theorem Le.hold {S S' : Store} (h : Le S S') (bad : List Addr) : Hold bad S S' := fun b _ c e => h b c e
theorem lc_at {α : Type} {keep : Store → Prop} {g : DTG} {tt : DTT} {te : DTE} {q : List Dt → Store → Prop} {δ : DS} (enc : α → Dt) (L : List α) (I : Nat → List Dt → Store → Prop) (hk : ∀ i acc S, I i acc S → keep S)
    (h : ∀ i x acc S, L[i]? = some x → I i acc S → ∀ (kY : Dt → Store → Prop) (kN : Store → Prop), (∀ y S', I (i + 1) (acc ++ [y]) S' → kY y S') → (∀ S', I (i + 1) acc S' → kN S') → g (enc x) δ S fun δ' S' => tt δ' S' fun b S2 => Ift b (te δ' S2 kY) (kN S2))
    (fin : ∀ acc S, I L.length acc S → q acc S) {S : Store} (h0 : I 0 [] S) : lcGo keep g tt te q δ (L.map enc) [] S := by
  have go : ∀ (M : List α) (k : Nat), M = L.drop k → k + M.length = L.length → ∀ acc S, I k acc S → lcGo keep g tt te q δ (M.map enc) acc S := by
    intro M
    induction M with
    | nil => exact fun k e hl acc S i => ⟨hk _ _ _ i, fin acc S (by rw [← hl]; exact i)⟩
    | cons x M ih =>
      intro k e hl acc S i
      have ex : L[k]? = some x := by
        have := congrArg (fun l => l[0]?) e
        rw [List.getElem?_drop] at this
        simpa using this.symm
      have e2 : M = L.drop (k + 1) := by
        have := congrArg List.tail e
        rw [List.tail_cons, List.tail_drop] at this
        exact this
      have hl2 : k + 1 + M.length = L.length := by rw [List.length_cons] at hl; omega
      exact ⟨hk _ _ _ i, h k x acc S ex i _ _ (fun y S' i' => ih (k + 1) e2 hl2 _ S' i') fun S' i' => ih (k + 1) e2 hl2 _ S' i'⟩
  exact go L 0 rfl (by omega) [] S h0
theorem size6 {n : Nat} (h : n ≤ 1000001) : n < sizeLine := Nat.lt_of_le_of_lt h (by rw [sizeLine_eq]; decide)
end Dn

/-! zip of two lists -/
namespace Dn
open PySem PySem.Spec PyProof.Rows L2 Pr
theorem zipD_get (l m : List Dt) (i : Nat) : (zipD l m)[i]? = match l[i]?, m[i]? with
  | some a, some b => some (.tup [a, b])
  | _, _ => none := by
  unfold zipD
  rw [List.getElem?_zipWith]
  cases l[i]? <;> cases m[i]? <;> rfl
theorem zipD_len (l m : List Dt) : (zipD l m).length = min l.length m.length := List.length_zipWith
theorem zipD_map {α : Type} (f g : α → Dt) (L : List α) : zipD (L.map f) (L.map g) = L.map fun x => .tup [f x, g x] := by
  unfold zipD
  rw [List.zipWith_map, List.zipWith_self]
section
variable {X : Cx} {K : PySem.W.Frag} {E : XK} {e : DX} {a b : Expr} {ts : DTA} {pos p tpos : Pos} {elts : List Expr} {kk : Nat}
theorem ok_zip {G : Hp} {a b : Addr} {vs us : List V} {l m : List Dt} (h : G a = some (.lst vs)) (r : Reps K G l vs) (h2 : G b = some (.lst us)) (r2 : Reps K G m us) : ItOk K G (Itz K a b) (zipD l m) (fun _ => True) := by
  refine ⟨fun Z i H S g x _ hi => ?_, fun Z H S g x _ => ?_, fun Z i H S x H' g e _ hi y => ?_⟩
  · rw [zipD_len, r.len, r2.len] at hi
    have i1 : i < vs.length := by omega
    have i2 : i < us.length := by omega
    exact ⟨vs, us, vs[i], us[i], SqL.of (out_le (x.lst h)), SqL.of (out_le (x.lst h2)), List.getElem?_eq_getElem _, List.getElem?_eq_getElem _⟩
  · refine ⟨vs, us, SqL.of (out_le (x.lst h)), SqL.of (out_le (x.lst h2)), ?_⟩
    rw [zipD_len, r.len, r2.len]
    omega
  · obtain ⟨T, u, v, rfl, nT, rfl, h3, h4⟩ := y
    obtain ⟨d, h5, h6⟩ := Paired.get' (Reps.pair.mp r) (h3 vs (SqL.of (out_le (e.lst h))))
    obtain ⟨c, h7, h8⟩ := Paired.get' (Reps.pair.mp r2) (h4 us (SqL.of (out_le (e.lst h2))))
    exact ⟨.tup [d, c], by rw [zipD_get, h5, h7], g.new nT, ext_new g nT, T, [u, v], rfl, SqT.of (out_new g nT), u, [v], rfl, Rep.ext (e.trans (ext_new g nT)) _ _ h6, v, [], rfl, Rep.ext (e.trans (ext_new g nT)) _ _ h8, rfl⟩
@[reducible] def dItZV (t : DTA) : DTL := fun δ S q => t δ S fun xs S1 => match xs with
  | [.lst l, .lst m] => q (zipD l m) (fun _ => True) S1
  | _ => False
theorem di_zip (hK : X.K = K) (hg : Gl X "zip") (hm : X.mg "zip" = none) (ha : PA X [a, b] (tDA K E e ts)) (hs : starEach [a, b] X.env = (false, eval a X.env) :: starEach [b] X.env := by rfl) (hpl : (backTo pos (starEach [b] X.env)).any (·.1) = false := by rfl) :
    PI X (.Tuple elts kk tpos) (.Call (.Name "zip" p) [a, b] [] pos) (tDI K E e (dItZV ts)) := ⟨fun pins s σ H R I h => by
  subst hK
  refine (RZ.pi_zipA (pos := pos) hg hm ha hs hpl).run pins s σ H R I ?_
  obtain ⟨δ, S, Z, q, t, h, k⟩ := h
  refine ⟨δ, S, Z, _, t, h, fun vs xs H1 S1 g1 x1 r1 h1 => ?_⟩
  match xs, h1 with
  | [.lst l, .lst m], h1 =>
    obtain ⟨v, u, rfl, rv, ru⟩ := reps2 r1
    obtain ⟨a, ws, rfl, h2, h3⟩ := rv
    obtain ⟨b, us, rfl, h4, h5⟩ := ru
    exact ⟨a, b, ws, us, rfl, .inl ⟨SqL.of (out_le h2), SqL.of (out_le h4), k _ _ H1 S1 _ g1 x1 (ok_zip h2 h3 h4 h5) h1⟩⟩⟩
end
end Dn

/-! texts: find from a place, strip of signs, upper, lower; a part of a list as a list of one's own -/
namespace Dn
open PySem PySem.Spec PyProof.Rows L2 Pr
theorem SOk.stripChars {a : Str} (h : SOk a) (b : Str) : SOk (Txt.stripChars a b) := by
  unfold Txt.stripChars Txt.stripBy
  split
  · exact h
  · exact h.strSub _ _
@[reducible] def rmFind2 : DMr := fun x ds S q => match x, ds with
  | .str a, [.str b, .int i] => q (.int (Txt.find3 a b i)) S
  | _, _ => False
@[reducible] def rmStrip1 : DMr := fun x ds S q => match x, ds with
  | .str a, [.str b] => q (.str (Txt.stripChars a b)) S
  | _, _ => False
@[reducible] def rSlO (x : Dt) (lo hi : Option Int) (S : Store) (q : DK) : Prop := seeL x S fun l => ∀ p, S p = none → q (.ref p) (sput S p (.lst (cutD l lo hi)))
@[reducible] def dSlO (a : DTE) (lo hi : DTO) : DTE := fun δ S q => a δ S fun x S1 => lo δ S1 fun l S2 => hi δ S2 fun h S3 => rSlO x l h S3 q
def rDSO (K : PySem.W.Frag) (x : V) (lo hi : Option Int) (H : Hp) (Q : VK) : Prop := ∃ d S Z q, Good K Z H S ∧ Rep K (out H S Z) d x ∧ rSlO d lo hi S q ∧ Ty K Z H S q Q
section
variable {X : Cx} {K : PySem.W.Frag} {E : XK} {e : DX}
theorem md_find2 : MtR X "str.find" (rDM K rmFind2) := fun pins s σ H x xs v us Q I rx r ⟨d, ds, S, Z, q, g, rd, rs, h, k⟩ => by
  match d, ds, h with
  | .str a, [.str b, .int i], h =>
    obtain ⟨w, u, rfl, rw', ru⟩ := reps2 rs
    exact mt_find3 pins s σ H x _ v us Q I rx r ⟨a, b, i, rd.1, by rw [rw'.1, show u = _ from ru], k.here g h rfl⟩
theorem md_strip1 : MtR X "str.strip" (rDM K rmStrip1) := fun pins s σ H x xs v us Q I rx r ⟨d, ds, S, Z, q, g, rd, rs, h, k⟩ => by
  match d, ds, h with
  | .str a, [.str b], h =>
    obtain ⟨w, rfl, rw'⟩ := reps1 rs
    exact mt_stripChars pins s σ H x _ v us Q I rx r ⟨a, b, rd.1, by rw [rw'.1], rd.2.len, k.here g h ⟨rfl, SOk.stripChars rd.2 b⟩⟩
theorem sl_DO (hK : X.K = K) : SlR X (rDSO K) := by
  subst hK
  intro pins s σ H x v vl vu lo hi sl Q I rv is pl ph h
  obtain ⟨d, S, Z, q, g, r, h, k⟩ := h
  obtain ⟨p, vs, l, rfl, hp, hl, hq⟩ := see_lst g r h
  exact sl_list pins s σ H _ v vl vu lo hi sl Q I rv is pl ph ⟨p, vs, rfl, SqL.of hp, fun p np => k.own g np (hq p (g.nS np)) ⟨_, rfl, cutV_pair hl⟩⟩
theorem de_slO {a : Expr} {lo hi : Option Expr} {p2 pos : Pos} {da : DTE} {dl dh : DTO} (hK : X.K = K) (ha : PE X a (tD K E e da)) (hl : PO X lo (tDO K E e dl)) (hh : PO X hi (tDO K E e dh)) : PE X (.Subscript a (.Slice lo hi none p2) pos) (tD K E e (dSlO da dl dh)) := PE.imp (pe_slice (sl_DO hK) ha hl hh) fun σ H Q h => by
  obtain ⟨δ, S, Z, q, t, h, k⟩ := h
  exact ⟨δ, S, Z, _, t, h, fun v x H1 S1 g1 x1 r1 h1 => ⟨δ, S1, Z, _, t.to g1 x1, h1, fun i H2 S2 g2 x2 h2 => ⟨δ, S2, Z, _, t.to g2 (x1.trans x2), h2, fun j H3 S3 g3 x3 h3 => ⟨x, S3, Z, q, g3, Rep.ext (x2.trans x3) _ _ r1, h3, k.ext (x1.trans (x2.trans x3))⟩⟩⟩⟩
end
end Dn

/-! raise X(a message that is worked out) -/
namespace Pr
open PySem PySem.Spec PyProof.Rows L2
theorem pmk_ownE {X : Cx} {C : Addr} {bmB : List Value} {B newId initId : String} {x : Str} {p pos : Pos} {em : Expr} {te : TE} (F : ExcBaseFacts B newId initId bmB) (q : PySem.W.excIn X.K C bmB newId = true) (gC : X.mg x = some (.ref C)) (kC : PySem.W.keepIn X.K (.ref C) = true) (r : Raises X (.ref C)) (hg : Gl X x)
    (he : PE X em te) (hdb : (x == ("__debug__" : Str)) = false := by decide) (hs : starEach [em] X.env = (false, eval em X.env) :: starEach [] X.env := by rfl) : PMk X (.Call (.Name x p) [em] [] pos) (fun σ H Q => te σ H fun _ H1 => Q (.ref C) none H1) := by
  intro pins s σ H Q I h
  refine wpAny_Call_Name_kw (ld_glob I hg gC ?_ hdb)
  have ha : PA X [em] (tCons te tNil) := pa_cons he pa_nil hs
  refine PySem.W.callWith_K (h₀ := X.base) I.ok.mod.kin kC (thn (ha.run pos pins s σ H (fun vs H1 => match vs with | [_] => Q (.ref C) none H1 | _ => False) I h) fun us s1 hh => ?_) hs
  obtain ⟨vs, H1, I1, r1, hh⟩ := hh
  refine ⟨I1.kIn, ?_⟩
  match vs, hh with
  | [v], hh =>
    cases r1 with
    | cons ru rn =>
      rename_i u us'
      cases rn
      show wpAny _ _ (call (.ref C) [u]) _ _ _
      obtain ⟨bm, N, nm, qn, bs, hdct, sn, sub, ab, col, dd, k0, k1, k2, k3, k5, mN, hC, hN, hni, T⟩ := exc_obj I1.kIn q
      refine wpAny_call_exc_subT F T hC hN hni (fun h' e hm => ?_) (by show 1 ≤ sizeLine; rw [sizeLine_eq]; omega)
      exact mk_of I1 hm r hh (I1.hok.gone hm.new)
end Pr
namespace Dn
open PySem PySem.Spec PyProof.Rows L2 Pr
@[reducible] def dRaiseE (a : DTE) (e : DX) (C : Addr) : DTS := fun _ δ S => a δ S fun _ S1 => e C S1
section
variable {P : Program} {w : World} {K : PySem.W.Frag} {mg : Str → Option Value} {base : Heap} {N : List Str} {qual : Str} {scope : Scope} {f : Addr} {cd : Value} {A : Around} {outer : List Env} {s : Shared} {H : Hp} {E : XK} {e : DX} {em : Expr} {pos : Pos} {C : Addr} {da : DTE}
theorem dr_raiseE {B newId initId bmB} {x : Str} {p pos2 : Pos} (F : ExcBaseFacts B newId initId bmB) (q : PySem.W.excIn K C bmB newId = true) (gC : mg x = some (.ref C)) (kC : PySem.W.keepIn K (.ref C) = true)
    (r : Raises (cxOf (L2.CX P w) P w K mg base N qual scope f cd A outer s H E) (.ref C)) (hg : Gl (cxOf (L2.CX P w) P w K mg base N qual scope f cd A outer s H E) x) (he : PE (cxOf (L2.CX P w) P w K mg base N qual scope f cd A outer s H E) em (tD K E e da)) (hdb : (x == ("__debug__" : Str)) = false := by decide)
    (hs : starEach [em] (cxOf (L2.CX P w) P w K mg base N qual scope f cd A outer s H E).env = (false, eval em (cxOf (L2.CX P w) P w K mg base N qual scope f cd A outer s H E).env) :: starEach [] (cxOf (L2.CX P w) P w K mg base N qual scope f cd A outer s H E).env := by rfl) :
    PS (cxOf (L2.CX P w) P w K mg base N qual scope f cd A outer s H E) (.Raise (some (.Call (.Name x p) [em] [] pos2)) none pos) (tDS K E e (dRaiseE da e C)) :=
  PS.imp (ps_raise (W := fun cls d _ H => E cls d H) rfl tkX (pmk_ownE F q gC kC r hg he hdb hs)) fun D σ H h => by
    obtain ⟨δ, S, Z, DD, t, h, k⟩ := h
    exact ⟨δ, S, Z, _, t, h, fun v x H1 S1 g1 x1 r1 h1 => t.lk C H1 S1 g1 x1 h1⟩
end
end Dn

/-! zip of three lists in the store -/
namespace Pr
open PySem PySem.Spec PyProof.Rows L2 LamX NdefX
end Pr
namespace Dn
open PySem PySem.Spec PyProof.Rows L2 Pr
section
variable {X : Cx} {K : PySem.W.Frag} {E : XK} {e : DX} {a b c : Expr} {ts : DTA} {pos p tpos : Pos} {elts : List Expr} {kk : Nat}
end
end Dn

/-! d.get(z) of a dict of the module -/
namespace Dn
open PySem PySem.Spec PyProof.Rows L2 Pr LamX
section
variable {X : Cx} {K : PySem.W.Frag} {E : XK} {e : DX} {a b : Expr} {apos cpos : Pos} {da db : DTE} {d : Addr} {kvs : List (Str × He.Dv)}
@[reducible] def oDv (o : Option He.Dv) : Dt := match o with
  | none => .non
  | some v => dvD v
@[reducible] def dKget1 (d : Addr) (kvs : List (Str × He.Dv)) (da db : DTE) : DTE := fun δ S q => da δ S fun x S1 => x = .ref d ∧ db δ S1 fun y S2 => ∃ z, y = .str z ∧ q (oDv (aGet kvs z)) S2
theorem pe_kget1 {td ty : TE} (kd : KdX X.K X.w d kvs) (ho : PE X a td) (he : PE X b ty) (m : M1 X a "get" apos b cpos) :
    PE X (.Call (.Attribute a "get" apos) [b] [] cpos) (fun σ H Q => td σ H fun x H1 => x = .ref d ∧ ty σ H1 fun y H2 => ∃ z, y = .str z ∧ (∀ v, aGet kvs z = some v → Q (v.v X.K) H2) ∧ (aGet kvs z = none → Q .non H2)) := by
  refine ⟨fun pins s σ H Q I h => ?_⟩
  obtain ⟨es, n, D⟩ := kd.kd
  refine wpAny_Call_method m.base m.few m.line PySem.F.plainAttrs_dict PySem.F.slot_dict_get PySem.F.type_dict_get (thn (ho.run pins s σ H _ I h) fun u s1 ⟨x, H1, I1, rx, ex, q1⟩ => ?_)
  subst ex
  obtain rfl : u = Value.ref d := rx
  refine ⟨kd_type D I1, fun b' q => ?_, ?_⟩
  · cases q
    exact ⟨_, I1.kIn _ _ D.at_, rfl⟩
  rw [m.trees]
  refine Calls.callWith_builtin rfl (Calls.evalArgs_plain (Calls.spliced_cons (thn (he.run pins s1 σ H1 _ I1 q1) fun iv s2 ⟨y, H2, I2, ry, z, ey, q2, q3⟩ => Calls.spliced_nil ?_)))
  subst ey
  obtain ⟨t, rfl⟩ := (show ∃ t, iv = Value.str z t from ry)
  refine call_meetsIn PySem.F.slot_dict_get (kd_type D I2) PySem.F.entry_dict_get (PySem.F.args_dict_get_2 _ _) (meets_dict_get (PySem.strKind X.prog X.w) d (PySem.strKind_is X.prog X.w z t) D.low) ⟨_, PySem.W.mapOf_K (prog := X.prog) (w := X.w) I2.kIn D.at_ D.lit, ?_⟩
  cases hv : aGet kvs z with
  | none =>
    rw [PySem.W.find_K D.at_ (kd.no z hv)]
    exact ⟨V.non, H2, I2.tok _, rfl, q3 hv⟩
  | some v =>
    obtain ⟨u, h1, h2⟩ := kd.get z v hv
    rw [PySem.W.find_K D.at_ h1]
    exact ⟨_, H2, I2.tok _, h2, q2 v hv⟩
theorem de_kget1 (hK : X.K = K) (kd : KdX K X.w d kvs) (ha : PE X a (tD K E e da)) (hb : PE X b (tD K E e db)) (m : M1 X a "get" apos b cpos) : PE X (.Call (.Attribute a "get" apos) [b] [] cpos) (tD K E e (dKget1 d kvs da db)) := by
  subst hK
  refine PE.imp (pe_kget1 kd ha hb m) fun σ H Q h => ?_
  obtain ⟨δ, S, Z, q, t, h, k⟩ := h
  refine ⟨δ, S, Z, _, t, h, fun v x H1 S1 g1 x1 r1 h1 => ?_⟩
  obtain ⟨rfl, h1⟩ := h1
  obtain rfl := (show v = _ from r1)
  refine ⟨rfl, δ, S1, Z, _, t.to g1 x1, h1, fun w y H2 S2 g2 x2 r2 h2 => ?_⟩
  obtain ⟨z, rfl, h3⟩ := h2
  refine ⟨z, r2.1, fun v hv => ?_, fun hn => ?_⟩
  · rw [hv] at h3
    exact (k.ext (x1.trans x2)).here g2 h3 (rep_dv (List.all_eq_true.mp kd.ok (z, v) (aGet_mem hv)))
  · rw [hn] at h3
    exact (k.ext (x1.trans x2)).here g2 h3 rfl
end
theorem isi_tup : ((fun x : List Value => x.contains (Value.type "str")) ((fun x => List.map Value.type x.mro) Manifest.ty_tuple)) = false := rfl
theorem mdec {p : Prop} [Decidable p] {A B : Prop} (h : p → A) (g : ¬ p → B) : match decide p with
  | true => A
  | false => B := by
  by_cases k : p
  · rw [decide_eq_true k]; exact h k
  · rw [decide_eq_false k]; exact g k
theorem mdecN {p : Prop} [Decidable p] {A B : Prop} (h : ¬ p → A) (g : p → B) : match !decide p with
  | true => A
  | false => B := by
  by_cases k : p
  · rw [decide_eq_true k]; exact g k
  · rw [decide_eq_false k]; exact h k
theorem mblN {b : Bool} {A B : Prop} (h : b = false → A) (g : b = true → B) : match !b with
  | true => A
  | false => B := by
  cases b with
  | true => exact g rfl
  | false => exact h rfl
theorem cut_init {l : List Dt} : cutD l none (some (-1)) = l.dropLast := by
  unfold cutD
  rw [List.dropLast_eq_take]
  simp only [HT.sIx, List.drop_zero]
  congr 1
  simp
  omega
theorem join_len2 {s : Str} : ∀ {ys : List Str}, (Str.join s ys).length ≤ (ys.map (·.length)).sum + ys.length * s.length
  | [] => Nat.zero_le _
  | [x] => by
    show x.length ≤ x.length + 0 + 1 * s.length
    omega
  | x :: y :: r => by
    have h2 := join_len2 (s := s) (ys := y :: r)
    rw [len_cps, join_cons2, List.length_append, List.length_append, ← len_cps, ← len_cps, ← len_cps, List.map_cons, List.sum_cons, List.length_cons, Nat.add_mul]
    omega
theorem sok_join2 {s : Str} {ys : List Str} (hs : SOk s) (hy : ∀ y ∈ ys, SOk y) (hb : (ys.map (·.length)).sum + ys.length * s.length ≤ 16777216) : SOk (Txt.join s ys) := by
  rw [TL.join_eq]
  refine ⟨Nat.le_trans join_len2 hb, ?_⟩
  rw [sok_all]
  intro c hc
  rcases join_signs hc with h | ⟨y, h, h2⟩
  · exact sok_all.mp hs.ok c h
  · exact sok_all.mp (hy y h).ok c h2
/-- " ".join(z.split()) -/
theorem join_words {z : Str} {S : Store} {q : DK} (hz : SOk z) (hl : z.length ≤ 5000000) (h : q (.str (Txt.join " " (Txt.words z))) S) : rmJoin (.str " ") [.lst ((Txt.words z).map Dt.str)] S q := by
  have w := PySem.StrLaws.words_weight z
  have e1 : (" " : Str).length = 1 := rfl
  refine ⟨Txt.words z, rfl, ⟨?_, sok_join2 (sok_of (by decide +kernel)) (SOk.words hz) ?_⟩, h⟩
  · rw [e1]; omega
  · rw [e1]; omega
def stFor : Stmt → List Stmt
  | .For _ _ b _ _ => b
  | _ => []
def stThen : Stmt → List Stmt
  | .If _ b _ _ => b
  | _ => []
def nth (l : List Stmt) (i : Nat) : Stmt := l.getD i (.Pass ⟨0, 0, 0, 0⟩)
end Dn

/-! markup: the pure side (what the scanner reads, the parser, what it keeps) -/
namespace Mk
open PySem PySem.Spec PyProof.Rows L2 Pr Dn

def hereS (z : Str) (p n : Nat) : Str := cutS z (some (p : Int)) (some ((p : Int) + n))
def spanE (ok : Str → Bool) (z : Str) : Nat → Nat → Nat
  | 0, p => p
  | n + 1, p => if hereS z p 1 ≠ "" ∧ ok (hereS z p 1) = true then spanE ok z n (p + 1) else p
def span (ok : Str → Bool) (z : Str) (p : Nat) : Nat := spanE ok z (z.length - p) p
def blankS : Str := " \n"
def tagS : Str := "abcdefghijklmnopqrstuvwxyz0123456789-"
def skipP (z : Str) (p : Nat) : Nat := span (hasS blankS) z p
def nameP (z : Str) (p : Nat) : Nat := span (hasS tagS) z p
theorem cut_nat {z : Str} {i j : Nat} (h : i ≤ j) : cutS z (some (i : Int)) (some (j : Int)) = ⟨((z.cps.toList.drop i).take (j - i)).toArray⟩ := by
  unfold cutS
  rw [HT.sIx_nat, HT.sIx_nat]
  have hl : z.cps.toList.length = z.length := by rw [Array.length_toList]; rfl
  rcases Nat.lt_or_ge i z.length with hi | hi
  · rw [Nat.min_eq_left (Nat.le_of_lt hi)]
    rcases Nat.lt_or_ge j z.length with hj | hj
    · rw [Nat.min_eq_left (Nat.le_of_lt hj)]
    · rw [Nat.min_eq_right hj, List.take_of_length_le (i := z.length - i) (by rw [List.length_drop, hl]; exact Nat.le_refl _), List.take_of_length_le (by rw [List.length_drop, hl]; omega)]
  · rw [Nat.min_eq_right hi, List.drop_eq_nil_of_le (by rw [hl]; exact Nat.le_refl _), List.drop_eq_nil_of_le (by rw [hl]; exact hi), List.take_nil, List.take_nil]
theorem here_eq {z : Str} {p n : Nat} : hereS z p n = ⟨((z.cps.toList.drop p).take n).toArray⟩ := by
  unfold hereS
  rw [show (p : Int) + n = ((p + n : Nat) : Int) by omega, cut_nat (Nat.le_add_right _ _), Nat.add_sub_cancel_left]
theorem here_lt {z : Str} {p : Nat} (h : hereS z p 1 ≠ "") : p < z.length := by
  rcases Nat.lt_or_ge p z.length with h1 | h1
  · exact h1
  · refine absurd ?_ h
    rw [here_eq, List.drop_eq_nil_of_le (by rw [Array.length_toList]; exact h1), List.take_nil]
    rfl
theorem span_step {ok : Str → Bool} {z : Str} {p : Nat} (h : hereS z p 1 ≠ "") (h2 : ok (hereS z p 1) = true) : span ok z p = span ok z (p + 1) := by
  have hp := here_lt h
  unfold span
  rw [show z.length - p = (z.length - (p + 1)) + 1 by omega]
  show (if _ then _ else _) = _
  rw [if_pos ⟨h, h2⟩]
theorem span_stop {ok : Str → Bool} {z : Str} {p : Nat} (h : ¬ (hereS z p 1 ≠ "" ∧ ok (hereS z p 1) = true)) : span ok z p = p := by
  unfold span
  cases z.length - p with
  | zero => rfl
  | succ n =>
    show (if _ then _ else _) = _
    rw [if_neg h]
theorem span_le (ok : Str → Bool) (z : Str) : ∀ n p, p ≤ spanE ok z n p
  | 0, p => Nat.le_refl p
  | n + 1, p => by
    show p ≤ if _ then _ else _
    split
    · exact Nat.le_trans (Nat.le_succ p) (span_le ok z n (p + 1))
    · exact Nat.le_refl p
theorem span_max (ok : Str → Bool) (z : Str) : ∀ n p, p ≤ z.length → spanE ok z n p ≤ z.length
  | 0, p, h => h
  | n + 1, p, h => by
    show (if _ then _ else _) ≤ _
    split
    · rename_i h2
      exact span_max ok z n (p + 1) (here_lt h2.1)
    · exact h
/-- up to a sign, and past it -/
def upP (z sign : Str) (p : Nat) : Option (Str × Nat) := if Txt.find3 z sign (p : Int) < 0 then none else some (cutS z (some (p : Int)) (some (Txt.find3 z sign (p : Int))), (Txt.find3 z sign (p : Int)).toNat + sign.length)
theorem find_at (z s : Str) (p : Nat) (hp : p ≤ z.length) : Txt.find3 z s (p : Int) = -1 ∨ ∃ k : Nat, Txt.find3 z s (p : Int) = (k : Int) ∧ p ≤ k ∧ k + s.length ≤ z.length := by
  unfold Txt.find3
  rcases PySem.StrLaws.occ_head_from z s (fromIndex z.length (p : Int)) 1 (Nat.le_refl 1) with ⟨h0, hn⟩ | ⟨k, r, h0, hlo, hk, hn⟩
  · rw [h0]
    exact .inl rfl
  · rw [h0]
    refine .inr ⟨k, rfl, Nat.le_trans ?_ hlo, hk.1⟩
    unfold fromIndex
    rw [if_neg (by omega)]
    omega
def entS : List (Str × Str) := [("lt", "<"), ("gt", ">"), ("amp", "&"), ("quot", "\"")]
def charS (z : Str) (p : Nat) : Str := ⟨#[z.cps.toList.getD p 0]⟩
def entN (z : Str) (p : Nat) : Str := if Txt.find3 z ";" (p : Int) ≥ 0 then cutS z (some ((p : Int) + 1)) (some (Txt.find3 z ";" (p : Int))) else ""
/-- entities put in -/
def weE (z : Str) : Nat → Nat → Str → Option Str
  | 0, _, f => some f
  | n + 1, p, f => if p < z.length then
      if charS z p ≠ "&" then weE z n (p + 1) (f ++ charS z p) else
        (aGet entS (entN z p)).bind fun s => weE z n ((Txt.find3 z ";" (p : Int)).toNat + 1) (f ++ s)
    else some f
theorem weE_end {z : Str} {p : Nat} {f : Str} (h : ¬ p < z.length) : ∀ n, weE z n p f = some f
  | 0 => rfl
  | n + 1 => if_neg h
theorem ent_len {z s : Str} (h : aGet entS z = some s) : s.length = 1 := by
  unfold aGet at h
  obtain ⟨p, hp, rfl⟩ := Option.map_eq_some_iff.mp h
  have hm := List.mem_of_find?_eq_some hp
  simp only [entS, List.mem_cons, List.not_mem_nil, or_false] at hm
  rcases hm with rfl | rfl | rfl | rfl <;> rfl
/-- enough is enough -/
theorem weE_more {z : Str} : ∀ n p f, p ≤ z.length → z.length ≤ n + p → ∀ m, n ≤ m → weE z m p f = weE z n p f
  | 0, p, f, hp, hn, m, hm => by
    rw [weE_end (by omega), weE_end (by omega)]
  | n + 1, p, f, hp, hn, m + 1, hm => by
    by_cases h : p < z.length
    · show (if p < z.length then _ else _) = (if p < z.length then _ else _)
      rw [if_pos h, if_pos h]
      by_cases h1 : charS z p ≠ "&"
      · rw [if_pos h1, if_pos h1]
        exact weE_more n (p + 1) _ h (by omega) m (by omega)
      · rw [if_neg h1, if_neg h1]
        cases hs : aGet entS (entN z p) with
        | none => rfl
        | some s =>
          have fa := find_at z ";" p hp
          have hb : Txt.find3 z ";" (p : Int) ≥ 0 := by
            rcases Int.lt_or_le (Txt.find3 z ";" (p : Int)) 0 with h2 | h2
            · have en : entN z p = "" := if_neg (by omega)
              rw [en] at hs
              cases hs
            · exact h2
          obtain ⟨k, ek, kp, kz⟩ : ∃ k : Nat, Txt.find3 z ";" (p : Int) = (k : Int) ∧ p ≤ k ∧ k + (";" : Str).length ≤ z.length := by
            rcases fa with e | e
            · omega
            · exact e
          have kz : k + 1 ≤ z.length := kz
          show weE z m _ _ = weE z n _ _
          rw [ek, Int.toNat_natCast]
          exact weE_more n (k + 1) _ kz (by omega) m (by omega)
    · rw [weE_end h, weE_end h]
  | n + 1, p, f, hp, hn, 0, hm => by omega
theorem weE_fuel {z : Str} {n m p : Nat} {f : Str} (hp : p ≤ z.length) (h1 : z.length ≤ n + p) (h2 : z.length ≤ m + p) : weE z n p f = weE z m p f := by
  rcases Nat.le_total n m with h | h
  · exact (weE_more n p f hp h1 m h).symm
  · exact weE_more m p f hp h2 n h
def withEnt (z : Str) : Option Str := weE z (z.length + 1) 0 ""
def voids : List Str := ["br", "hr", "img", "input", "meta", "link"]

structure PN where
  tag : Option Str
  text : Str
  attrs : List (Str × Str)
  val : Str
  chk : Bool
  par : Option Nat
  kids : List Nat
deriving DecidableEq, Inhabited
structure PM where
  N : List PN
  opn : List Nat
deriving DecidableEq
def nod (m : PM) (i : Nat) : PN := m.N.getD i default
def tagOf (m : PM) (i : Nat) : Str := (nod m i).tag.getD ""
def lastO (m : PM) : Nat := m.opn.getLastD 0
def blocksL : List Str := ["html", "body", "div", "p", "ul", "ol", "li", "h1", "h2", "section", "form", "hr", "pre", "main"]
def rawL : List Str := ["script", "style"]
def rootM : PM := ⟨[⟨some "html", "", [], "", false, none, []⟩], [0]⟩
/-- a new node, the last child of pa -/
def pushF (m : PM) (pa : Nat) (n : PN) : PM := { m with N := m.N.set pa { nod m pa with kids := (nod m pa).kids ++ [m.N.length] } ++ [{ n with par := some pa }] }
def textN (t : Str) : PN := ⟨none, t, [], "", false, none, []⟩
def elemN (tag : Str) (fd : List (Str × Str)) : PN := ⟨some tag, "", fd, (aGet fd "value").getD "", (aGet fd "checked").isSome, none, []⟩
def addText (m : PM) (pa : Nat) (t : Str) : PM := pushF m pa (textN t)
def endT (z : Str) (p : Nat) : Nat := if Txt.find3 z "<" (p : Int) < 0 then z.length else (Txt.find3 z "<" (p : Int)).toNat
def textF (z : Str) (p : Nat) (m : PM) : Option (Nat × PM) := (withEnt (cutS z (some (p : Int)) (some (endT z p : Nat)))).map fun t => (endT z p, if Txt.stripChars t " \n" ≠ "" ∨ tagOf m (lastO m) ∉ blocksL then addText m (lastO m) t else m)
def closeP (m : PM) (tag : Str) : PM := if tag ∈ blocksL ∧ tagOf m (lastO m) = "p" then { m with opn := m.opn.dropLast } else m
def liPlace (m : PM) : Nat → Nat
  | 0 => 0
  | k + 1 => if tagOf m (m.opn.getD (k + 1) 0) ∈ (["li", "ul", "ol"] : List Str) then k + 1 else liPlace m k
def closeF (m : PM) (tag : Str) : PM := if tag = "li" then if tagOf (closeP m tag) ((closeP m tag).opn.getD (liPlace (closeP m tag) ((closeP m tag).opn.length - 1)) 0) = "li" then { closeP m tag with opn := (closeP m tag).opn.take (liPlace (closeP m tag) ((closeP m tag).opn.length - 1)) } else closeP m tag else closeP m tag
def attrE (z : Str) : Nat → Nat → List (Str × Str) → Option (List (Str × Str) × Nat)
  | 0, _, _ => none
  | n + 1, p, fd =>
    if hereS z p 1 = "" ∨ hereS z p 1 = ">" then (upP z ">" p).map fun r => (fd, r.2) else
    if nameP z p = p then none else
    if (aGet fd (cutS z (some (p : Int)) (some (nameP z p : Nat)))).isSome then none else
    if hereS z (nameP z p) 1 = "=" then
      if hereS z (nameP z p + 1) 1 ≠ "\"" then none else
      (upP z "\"" (nameP z p + 2)).bind fun r => (withEnt r.1).bind fun v => attrE z n (skipP z r.2) (fd ++ [(cutS z (some (p : Int)) (some (nameP z p : Nat)), v)])
    else attrE z n (skipP z (nameP z p)) (fd ++ [(cutS z (some (p : Int)) (some (nameP z p : Nat)), ("" : Str))])
def attrF (z : Str) (p : Nat) : Option (List (Str × Str) × Nat) := attrE z (z.length + 1) (skipP z p) []
def startG (z tag : Str) (fd : List (Str × Str)) (p2 : Nat) (m1 : PM) : Option (Nat × PM) :=
  if tag ∈ rawL then (upP z ((("</" : Str) ++ tag) ++ (">" : Str)) p2).map fun r => (r.2, if r.1 ≠ ("" : Str) then addText (pushF m1 (lastO m1) (elemN tag fd)) m1.N.length r.1 else pushF m1 (lastO m1) (elemN tag fd))
  else some (p2, if tag ∉ voids then { pushF m1 (lastO m1) (elemN tag fd) with opn := m1.opn ++ [m1.N.length] } else pushF m1 (lastO m1) (elemN tag fd))
def startF (z : Str) (p : Nat) (m : PM) : Option (Nat × PM) :=
  if nameP z (p + 1) = p + 1 then none else
  (attrF z (nameP z (p + 1))).bind fun r =>
    if cutS z (some ((p + 1 : Nat) : Int)) (some (nameP z (p + 1) : Nat)) = "html" then none else
    if (closeF m (cutS z (some ((p + 1 : Nat) : Int)) (some (nameP z (p + 1) : Nat)))).opn.length ≥ 60 then none else
    startG z (cutS z (some ((p + 1 : Nat) : Int)) (some (nameP z (p + 1) : Nat))) r.1 r.2 (closeF m (cutS z (some ((p + 1 : Nat) : Int)) (some (nameP z (p + 1) : Nat))))
def placesF (m : PM) (tag : Str) : List Nat := (List.range m.opn.length).filter fun k => decide (0 < k) && decide (tagOf m (m.opn.getD k 0) = tag)
def endF (z : Str) (p : Nat) (m : PM) : Option (Nat × PM) :=
  if nameP z (p + 2) = p + 2 then none else
  if hereS z (skipP z (nameP z (p + 2))) 1 ≠ ">" then none else
  if placesF m (cutS z (some ((p + 2 : Nat) : Int)) (some (nameP z (p + 2) : Nat))) = [] then none else
  some (skipP z (nameP z (p + 2)) + 1, { m with opn := m.opn.take ((placesF m (cutS z (some ((p + 2 : Nat) : Int)) (some (nameP z (p + 2) : Nat)))).getLastD 0) })
def stepF (z : Str) (p : Nat) (m : PM) : Option (Nat × PM) :=
  if hereS z p 4 = "<!--" then (upP z "-->" (p + 4)).map fun r => (r.2, m)
  else if hereS z p 2 = "</" then endF z p m
  else if hereS z p 1 = "<" then startF z p m
  else textF z p m
def buildE (z : Str) : Nat → Nat → PM → Option PM
  | 0, _, _ => none
  | n + 1, p, m => if hereS z p 1 = "" then some m else (stepF z p m).bind fun r => buildE z n r.1 r.2
def parseF (z : Str) : Option PM := buildE z (z.length + 1) 0 rootM
/-! how far it reads -/
theorem here_len {z s : Str} {p n : Nat} (h : hereS z p n = s) (hn : s.length = n) : p + n ≤ z.length ∨ n = 0 := by
  have e : (hereS z p n).length = n := by rw [h]; exact hn
  rw [here_eq] at e
  have e : ((z.cps.toList.drop p).take n).length = n := e
  rw [List.length_take, List.length_drop, Array.length_toList] at e
  have hz : z.cps.size = z.length := rfl
  omega
theorem up_at {z s t : Str} {p p' : Nat} (hp : p ≤ z.length) (h : upP z s p = some (t, p')) : p + s.length ≤ p' ∧ p' ≤ z.length := by
  unfold upP at h
  split at h
  · cases h
  · rename_i h0
    injection h with h
    injection h with _ h2
    rcases find_at z s p hp with e | ⟨k, e, h3, h4⟩
    · omega
    · rw [e, Int.toNat_natCast] at h2
      omega
theorem skip_at {z : Str} {p : Nat} (hp : p ≤ z.length) : p ≤ skipP z p ∧ skipP z p ≤ z.length := ⟨span_le _ _ _ _, span_max _ _ _ _ hp⟩
theorem name_at {z : Str} {p : Nat} (hp : p ≤ z.length) : p ≤ nameP z p ∧ nameP z p ≤ z.length := ⟨span_le _ _ _ _, span_max _ _ _ _ hp⟩
theorem end_at {z : Str} {p : Nat} (hp : p < z.length) (h : hereS z p 1 ≠ "<") : p < endT z p ∧ endT z p ≤ z.length := by
  unfold endT
  split
  · exact ⟨hp, Nat.le_refl _⟩
  · rename_i h0
    rcases PySem.StrLaws.find3_spec z 60 (p : Int) with ⟨e, _⟩ | ⟨k, e, h1, h2, h3, h4⟩
    · have e : Txt.find3 z "<" (p : Int) = -1 := e
      omega
    · have e : Txt.find3 z "<" (p : Int) = (k : Int) := e
      rw [e, Int.toNat_natCast]
      have hf : fromIndex z.length (p : Int) = p := by
        unfold fromIndex
        rw [if_neg (by omega)]
        omega
      rw [hf] at h1
      refine ⟨Nat.lt_of_le_of_ne h1 fun z' => h ?_, Nat.le_of_lt h2⟩
      subst z'
      have h5 := PySem.StrLaws.getElem?_of_getD h2 h3
      rw [here_eq, List.drop_eq_getElem_cons (by rw [Array.length_toList]; exact h2)]
      rw [List.getElem?_eq_getElem (by rw [Array.length_toList]; exact h2)] at h5
      injection h5 with h5
      rw [h5]
      rfl
structure Wf (m : PM) : Prop where
  root : m.opn[0]? = some 0
  nod0 : (nod m 0).par = none
  tag0 : (nod m 0).tag = some "html"
  chain : ∀ j a b, m.opn[j]? = some a → m.opn[j + 1]? = some b → (nod m b).par = some a
  lt : ∀ a ∈ m.opn, a < m.N.length
  tg : ∀ a ∈ m.opn, ∃ t, (nod m a).tag = some t ∧ t ∉ voids
  mx : m.opn.length ≤ 60
  kd : ∀ n ∈ m.N, n.kids.length ≤ m.N.length ∧ ∀ k ∈ n.kids, k < m.N.length
  pr : ∀ n ∈ m.N, ∀ k, n.par = some k → k < m.N.length
theorem nod_at {m : PM} {i : Nat} {n : PN} (h : m.N[i]? = some n) : nod m i = n := by
  unfold nod
  rw [List.getD_eq_getElem?_getD, h]
  rfl
theorem nod_get {m : PM} {i : Nat} (h : i < m.N.length) : m.N[i]? = some (nod m i) := by
  unfold nod
  rw [List.getD_eq_getElem?_getD, List.getElem?_eq_getElem h]
  rfl

theorem push_len {m : PM} {pa : Nat} {n : PN} : (pushF m pa n).N.length = m.N.length + 1 := by
  unfold pushF
  rw [List.length_append, List.length_set, List.length_singleton]
theorem push_get {m : PM} {pa : Nat} {n : PN} {i : Nat} (hi : i < m.N.length) : (pushF m pa n).N[i]? = some (if i = pa then { nod m pa with kids := (nod m pa).kids ++ [m.N.length] } else nod m i) := by
  show (m.N.set pa _ ++ [_])[i]? = _
  rw [List.getElem?_append_left (by rw [List.length_set]; exact hi), List.getElem?_set]
  by_cases h : pa = i
  · subst h
    rw [if_pos rfl, if_pos hi, if_pos rfl]
  · rw [if_neg h, if_neg (fun z => h z.symm), nod_get hi]
theorem push_new {m : PM} {pa : Nat} {n : PN} : (pushF m pa n).N[m.N.length]? = some { n with par := some pa } := by
  show (m.N.set pa _ ++ [_])[m.N.length]? = _
  rw [List.getElem?_append_right (by rw [List.length_set]; exact Nat.le_refl _), List.length_set, Nat.sub_self]
  rfl
theorem nod_push {m : PM} {pa : Nat} {n : PN} {i : Nat} (hi : i < m.N.length) : nod (pushF m pa n) i = if i = pa then { nod m pa with kids := (nod m pa).kids ++ [m.N.length] } else nod m i := nod_at (push_get hi)
theorem nod_push_par {m : PM} {pa : Nat} {n : PN} {i : Nat} (hi : i < m.N.length) : (nod (pushF m pa n) i).par = (nod m i).par := by
  rw [nod_push hi]
  split
  · rename_i h; rw [h]
  · rfl
theorem nod_push_tag {m : PM} {pa : Nat} {n : PN} {i : Nat} (hi : i < m.N.length) : (nod (pushF m pa n) i).tag = (nod m i).tag := by
  rw [nod_push hi]
  split
  · rename_i h; rw [h]
  · rfl
theorem Wf.zero {m : PM} (w : Wf m) : 0 < m.N.length := w.lt 0 (List.mem_of_getElem? w.root)
theorem nod_mem {m : PM} {i : Nat} (h : i < m.N.length) : nod m i ∈ m.N := List.mem_of_getElem? (nod_get h)
theorem push_mem {m : PM} {pa : Nat} {n x : PN} (hx : x ∈ (pushF m pa n).N) : x = { n with par := some pa } ∨ ∃ i, i < m.N.length ∧ x = if i = pa then { nod m pa with kids := (nod m pa).kids ++ [m.N.length] } else nod m i := by
  obtain ⟨i, hi⟩ := List.getElem?_of_mem hx
  have hl := (List.getElem?_eq_some_iff.mp hi).1
  rw [push_len] at hl
  by_cases h : i < m.N.length
  · rw [push_get h] at hi
    injection hi with hi
    exact .inr ⟨i, h, hi.symm⟩
  · have e : i = m.N.length := by omega
    subst e
    rw [push_new] at hi
    injection hi with hi
    exact .inl hi.symm
theorem Wf.push {m : PM} (w : Wf m) {pa : Nat} (hp : pa < m.N.length) {n : PN} (hk : n.kids = []) : Wf (pushF m pa n) := by
  refine ⟨w.root, by rw [nod_push_par w.zero]; exact w.nod0, by rw [nod_push_tag w.zero]; exact w.tag0, fun j a b ha hb => by rw [nod_push_par (w.lt b (List.mem_of_getElem? hb))]; exact w.chain j a b ha hb, fun a ha => by rw [push_len]; exact Nat.lt_succ_of_lt (w.lt a ha), fun a ha => by rw [nod_push_tag (w.lt a ha)]; exact w.tg a ha, w.mx, fun x hx => ?_, fun x hx k hk' => ?_⟩
  · rcases push_mem hx with rfl | ⟨i, hi, rfl⟩
    · exact ⟨by rw [show ({ n with par := some pa } : PN).kids = [] from hk]; exact Nat.zero_le _, fun k hk' => by rw [show ({ n with par := some pa } : PN).kids = [] from hk] at hk'; cases hk'⟩
    · rw [push_len]
      have h1 := w.kd _ (nod_mem hp)
      have h2 := w.kd _ (nod_mem hi)
      by_cases h : i = pa
      · rw [if_pos h]
        refine ⟨by show ((nod m pa).kids ++ [_]).length ≤ _; rw [List.length_append, List.length_singleton]; omega, fun k hk => ?_⟩
        rcases List.mem_append.mp (show k ∈ (nod m pa).kids ++ [m.N.length] from hk) with hk | hk
        · exact Nat.lt_succ_of_lt (h1.2 k hk)
        · rw [List.mem_singleton.mp hk]; exact Nat.lt_succ_self _
      · rw [if_neg h]
        exact ⟨by omega, fun k hk => Nat.lt_succ_of_lt (h2.2 k hk)⟩
  · rw [push_len]
    rcases push_mem hx with rfl | ⟨i, hi, rfl⟩
    · have hk' : some pa = some k := hk'
      injection hk' with hk'
      omega
    · by_cases h : i = pa
      · rw [if_pos h] at hk'
        exact Nat.lt_succ_of_lt (w.pr _ (nod_mem hp) k hk')
      · rw [if_neg h] at hk'
        exact Nat.lt_succ_of_lt (w.pr _ (nod_mem hi) k hk')
theorem Wf.take {m : PM} (w : Wf m) {k : Nat} (hk : 0 < k) : Wf { m with opn := m.opn.take k } := by
  have g : ∀ j a, (m.opn.take k)[j]? = some a → m.opn[j]? = some a := fun j a h => by
    rw [List.getElem?_take] at h
    split at h
    · exact h
    · cases h
  refine ⟨?_, w.nod0, w.tag0, fun j a b ha hb => w.chain j a b (g j a ha) (g _ b hb), fun a ha => w.lt a (List.mem_of_mem_take ha), fun a ha => w.tg a (List.mem_of_mem_take ha), ?_, w.kd, w.pr⟩
  · show (m.opn.take k)[0]? = some 0
    rw [List.getElem?_take, if_pos hk]
    exact w.root
  · show (m.opn.take k).length ≤ 60
    rw [List.length_take]
    have := w.mx
    omega
theorem Wf.last {m : PM} (w : Wf m) : m.opn[m.opn.length - 1]? = some (lastO m) ∧ 0 < m.opn.length := by
  have h0 : 0 < m.opn.length := (List.getElem?_eq_some_iff.mp w.root).1
  refine ⟨?_, h0⟩
  unfold lastO
  rw [List.getLastD_eq_getLast?, List.getLast?_eq_getElem?]
  rw [List.getElem?_eq_getElem (by omega)]
  rfl
theorem Wf.lastM {m : PM} (w : Wf m) : lastO m ∈ m.opn := List.mem_of_getElem? w.last.1
theorem Wf.open_ {m : PM} (w : Wf m) (h60 : m.opn.length < 60) {n : PN} {t : Str} (ht : n.tag = some t) (hv : t ∉ voids) (hk : n.kids = []) : Wf { pushF m (lastO m) n with opn := m.opn ++ [m.N.length] } := by
  have lp := w.lt _ w.lastM
  have w2 := w.push lp hk
  refine ⟨?_, w2.nod0, w2.tag0, fun j a b ha hb => ?_, fun a ha => ?_, fun a ha => ?_, ?_, w2.kd, w2.pr⟩
  · show (m.opn ++ _)[0]? = some 0
    rw [List.getElem?_append_left w.last.2]
    exact w.root
  · have hb : (m.opn ++ [m.N.length])[j + 1]? = some b := hb
    have ha : (m.opn ++ [m.N.length])[j]? = some a := ha
    by_cases h : j + 1 < m.opn.length
    · rw [List.getElem?_append_left h] at hb
      rw [List.getElem?_append_left (by omega)] at ha
      exact w2.chain j a b ha hb
    · have hl := (List.getElem?_eq_some_iff.mp hb).1
      rw [List.length_append, List.length_singleton] at hl
      have e : j + 1 = m.opn.length := by omega
      rw [e, List.getElem?_append_right (Nat.le_refl _), Nat.sub_self] at hb
      obtain rfl : m.N.length = b := by simpa using hb
      rw [List.getElem?_append_left (by omega), show j = m.opn.length - 1 by omega, w.last.1] at ha
      injection ha with ha
      rw [show nod { pushF m (lastO m) n with opn := m.opn ++ [m.N.length] } m.N.length = { n with par := some (lastO m) } from nod_at push_new, ha]
  · show a < (pushF m (lastO m) n).N.length
    rw [push_len]
    rcases List.mem_append.mp ha with ha | ha
    · exact Nat.lt_succ_of_lt (w.lt a ha)
    · rw [List.mem_singleton.mp ha]; exact Nat.lt_succ_self _
  · rcases List.mem_append.mp ha with ha | ha
    · exact w2.tg a ha
    · rw [List.mem_singleton.mp ha]
      exact ⟨t, by rw [show nod { pushF m (lastO m) n with opn := m.opn ++ [m.N.length] } m.N.length = { n with par := some (lastO m) } from nod_at push_new]; exact ht, hv⟩
  · show (m.opn ++ _).length ≤ 60
    rw [List.length_append, List.length_singleton]
    omega
theorem wf_root : Wf rootM := by
  refine ⟨rfl, rfl, rfl, fun j a b ha hb => (by cases j <;> cases hb), fun a ha => ?_, fun a ha => ?_, by decide, fun n hn => ?_, fun n hn k hk => ?_⟩
  · rw [List.mem_singleton.mp ha]; exact Nat.zero_lt_one
  · exact ⟨"html", by rw [List.mem_singleton.mp ha]; rfl, by decide⟩
  · rw [List.mem_singleton.mp hn]
    exact ⟨Nat.zero_le _, fun k hk => by cases hk⟩
  · rw [List.mem_singleton.mp hn] at hk
    cases hk
end Mk

/-! markup: what the scanner reads of a text whose rest is known -/
namespace Mk
open PySem PySem.Spec PyProof.Rows L2 Pr Dn
abbrev Cs := List Nat
abbrev mkS (l : Cs) : Str := ⟨l.toArray⟩
abbrev Ds (z : Str) (p : Nat) : Cs := z.cps.toList.drop p
theorem mkS_inj {a b : Cs} (h : mkS a = mkS b) : a = b := by
  injection h with h
  have := congrArg Array.toList h
  exact this
theorem mkS_len (l : Cs) : (mkS l).length = l.length := rfl
theorem mkS_app (a b : Cs) : mkS a ++ mkS b = mkS (a ++ b) := by
  show (⟨a.toArray ++ b.toArray⟩ : Str) = ⟨(a ++ b).toArray⟩
  rw [List.append_toArray]
theorem ds_app {z : Str} {p : Nat} {x y : Cs} (h : Ds z p = x ++ y) : Ds z (p + x.length) = y := by
  show z.cps.toList.drop _ = y
  rw [← List.drop_drop, show z.cps.toList.drop p = x ++ y from h, List.drop_left]
theorem ds_le {z : Str} {p : Nat} {c : Nat} {y : Cs} (h : Ds z p = c :: y) : p < z.length := by
  have := congrArg List.length (show z.cps.toList.drop p = c :: y from h)
  rw [List.length_drop, List.length_cons, Array.length_toList] at this
  show p < z.cps.size
  omega
theorem ds_len {z : Str} {p : Nat} {y : Cs} (h : Ds z p = y) (hp : p ≤ z.length) : z.length = p + y.length := by
  have := congrArg List.length (show z.cps.toList.drop p = y from h)
  rw [List.length_drop, Array.length_toList] at this
  have e : z.cps.size = z.length := rfl
  omega
theorem here_at {z : Str} {p n : Nat} {x : Cs} (h : Ds z p = x) : hereS z p n = mkS (x.take n) := by
  rw [here_eq, show z.cps.toList.drop p = x from h]
theorem cut_at {z : Str} {p : Nat} {x y : Cs} (h : Ds z p = x ++ y) : cutS z (some (p : Int)) (some ((p + x.length : Nat) : Int)) = mkS x := by
  rw [cut_nat (Nat.le_add_right _ _), show z.cps.toList.drop p = x ++ y from h, Nat.add_sub_cancel_left, List.take_left]
theorem span_at {ok : Str → Bool} {z : Str} : ∀ {x y : Cs} {p : Nat}, Ds z p = x ++ y → (∀ c ∈ x, ok (mkS [c]) = true) → (∀ c, y.head? = some c → ok (mkS [c]) = false) → span ok z p = p + x.length
  | [], y, p, h, _, hy => by
    refine span_stop fun ⟨h1, h2⟩ => ?_
    rw [here_at h] at h1 h2
    cases y with
    | nil => exact h1 rfl
    | cons c y =>
      have h2 : ok (mkS [c]) = true := h2
      rw [hy c rfl] at h2
      cases h2
  | c :: x, y, p, h, hx, hy => by
    have e := here_at (n := 1) h
    rw [span_step (by rw [e]; exact fun k => by cases mkS_inj k) (by rw [e]; exact hx c List.mem_cons_self)]
    have hr := ds_app (x := [c]) (y := x ++ y) h
    rw [show p + ([c] : Cs).length = p + 1 from rfl] at hr
    rw [span_at (x := x) hr (fun d hd => hx d (List.mem_cons_of_mem _ hd)) hy]
    rw [List.length_cons]
    omega
theorem has_one (t : Str) (c : Nat) : hasS t (mkS [c]) = decide (c ∈ t.cps.toList) := by
  unfold hasS
  refine Bool.eq_iff_iff.mpr ?_
  rw [PySem.StrLaws.found_iff, decide_eq_true_eq]
  constructor
  · rintro ⟨i, h1, h2⟩
    exact List.mem_of_getElem? ((PySem.StrLaws.subAt_one t c i).mp ⟨h1, h2⟩)
  · intro h
    obtain ⟨i, hi⟩ := List.getElem?_of_mem h
    exact ⟨i, (PySem.StrLaws.subAt_one t c i).mpr hi⟩
theorem at_iff {z : Str} {s : Cs} (hs : s ≠ []) (i : Nat) : PySem.StrLaws.At z (mkS s) z.length i ↔ s <+: z.cps.toList.drop i := by
  unfold PySem.StrLaws.At
  rw [PySem.StrLaws.subAt_eq, beq_iff_eq, mkS_len]
  constructor
  · rintro ⟨h1, h2⟩
    exact ⟨(z.cps.toList.drop i).drop s.length, by
      have h2 : (z.cps.toList.drop i).take s.length = s := h2
      conv => lhs; lhs; rw [← h2]
      exact List.take_append_drop _ _⟩
  · rintro ⟨y, h⟩
    refine ⟨?_, by rw [← h, List.take_left]⟩
    have := congrArg List.length h
    rw [List.length_append, List.length_drop] at this
    have e : z.length = z.cps.toList.length := (Array.length_toList).symm
    have : 0 < s.length := List.length_pos_iff.mpr hs
    omega
theorem from_nat {n p : Nat} (h : p ≤ n) : fromIndex n (p : Int) = p := by
  unfold fromIndex
  rw [if_neg (by omega)]
  omega
theorem find_hit {z : Str} {p : Nat} {x s y : Cs} (hs : s ≠ []) (h : Ds z p = x ++ (s ++ y)) (hn : ∀ i, i < x.length → ¬ s <+: (x ++ (s ++ y)).drop i) : Txt.find3 z (mkS s) (p : Int) = ((p + x.length : Nat) : Int) := by
  have h : z.cps.toList.drop p = x ++ (s ++ y) := h
  have hit : PySem.StrLaws.At z (mkS s) z.length (p + x.length) := (at_iff hs _).mpr ⟨y, by rw [← List.drop_drop, h, List.drop_left]⟩
  have hp : p ≤ z.length := by
    have := hit.1
    omega
  unfold Txt.find3
  rw [from_nat hp]
  rcases PySem.StrLaws.occ_head_from z (mkS s) p 1 (Nat.le_refl 1) with ⟨h0, hno⟩ | ⟨k, r, h0, hlo, hk, hno⟩
  · exact absurd hit (hno _ (Nat.le_add_right _ _))
  · rw [h0]
    show (k : Int) = _
    rcases Nat.lt_trichotomy k (p + x.length) with h1 | h1 | h1
    · exfalso
      refine hn (k - p) (by omega) ?_
      have := (at_iff hs k).mp hk
      rw [show k = p + (k - p) by omega, ← List.drop_drop, h] at this
      exact this
    · rw [h1]
    · exact absurd hit (hno _ (Nat.le_add_right _ _) h1)
theorem find_miss {z : Str} {p : Nat} {x s : Cs} (hs : s ≠ []) (h : Ds z p = x) (hp : p ≤ z.length) (hn : ∀ i, ¬ s <+: x.drop i) : Txt.find3 z (mkS s) (p : Int) = -1 := by
  have h : z.cps.toList.drop p = x := h
  unfold Txt.find3
  rw [from_nat hp]
  rcases PySem.StrLaws.occ_head_from z (mkS s) p 1 (Nat.le_refl 1) with ⟨h0, hno⟩ | ⟨k, r, h0, hlo, hk, hno⟩
  · rw [h0]
  · exfalso
    have := (at_iff hs k).mp hk
    rw [show k = p + (k - p) by omega, ← List.drop_drop, h] at this
    exact hn _ this
theorem one_no {c : Nat} {x y : Cs} (hx : c ∉ x) {i : Nat} (hi : i < x.length) : ¬ [c] <+: (x ++ y).drop i := by
  rintro ⟨t, e⟩
  rw [List.drop_append_of_le_length (Nat.le_of_lt hi), List.drop_eq_getElem_cons hi] at e
  injection e with e _
  exact hx (e ▸ List.getElem_mem hi)
theorem find1_hit {z : Str} {p c : Nat} {x y : Cs} (h : Ds z p = x ++ c :: y) (hx : c ∉ x) : Txt.find3 z (mkS [c]) (p : Int) = ((p + x.length : Nat) : Int) := find_hit (s := [c]) nofun h fun i hi => one_no hx hi
theorem find1_miss {z : Str} {p c : Nat} {x : Cs} (h : Ds z p = x) (hp : p ≤ z.length) (hx : c ∉ x) : Txt.find3 z (mkS [c]) (p : Int) = -1 := find_miss nofun h hp fun i => by
  rintro ⟨t, e⟩
  exact hx (List.mem_of_mem_drop (show c ∈ x.drop i from by rw [← e]; exact List.mem_cons_self))
theorem up_hit {z : Str} {p : Nat} {x s y : Cs} (hs : s ≠ []) (h : Ds z p = x ++ (s ++ y)) (hn : ∀ i, i < x.length → ¬ s <+: (x ++ (s ++ y)).drop i) : upP z (mkS s) p = some (mkS x, p + x.length + s.length) := by
  unfold upP
  rw [find_hit hs h hn, if_neg (by omega), cut_at h, Int.toNat_natCast]
  rfl
theorem up1_hit {z : Str} {p c : Nat} {x y : Cs} (h : Ds z p = x ++ c :: y) (hx : c ∉ x) : upP z (mkS [c]) p = some (mkS x, p + x.length + 1) := up_hit (s := [c]) nofun h fun i hi => one_no hx hi
/-! signs -/
def isTag (c : Nat) : Bool := (97 ≤ c && c ≤ 122) || (48 ≤ c && c ≤ 57) || c == 45
def isBlank (c : Nat) : Bool := c == 32 || c == 10
theorem tag_iff (c : Nat) : hasS tagS (mkS [c]) = isTag c := by
  rw [has_one]
  have e : tagS.cps.toList = [97, 98, 99, 100, 101, 102, 103, 104, 105, 106, 107, 108, 109, 110, 111, 112, 113, 114, 115, 116, 117, 118, 119, 120, 121, 122, 48, 49, 50, 51, 52, 53, 54, 55, 56, 57, 45] := by decide +kernel
  rw [e]
  unfold isTag
  by_cases h : c < 128
  · revert c
    decide +kernel
  · rw [decide_eq_false (fun hm => by
      have : ∀ d ∈ [97, 98, 99, 100, 101, 102, 103, 104, 105, 106, 107, 108, 109, 110, 111, 112, 113, 114, 115, 116, 117, 118, 119, 120, 121, 122, 48, 49, 50, 51, 52, 53, 54, 55, 56, 57, 45], d < 128 := by decide
      exact h (this c hm))]
    refine Eq.symm ?_
    simp only [Bool.or_eq_false_iff, Bool.and_eq_false_iff, decide_eq_false_iff_not, beq_eq_false_iff_ne, ne_eq]
    omega
theorem blank_iff (c : Nat) : hasS blankS (mkS [c]) = isBlank c := by
  rw [has_one]
  have e : blankS.cps.toList = [32, 10] := by decide +kernel
  rw [e]
  unfold isBlank
  simp only [List.mem_cons, List.not_mem_nil, or_false]
  refine Bool.eq_iff_iff.mpr ?_
  simp
theorem name_of {z : Str} {p : Nat} {x y : Cs} (h : Ds z p = x ++ y) (hx : x.all isTag = true) (hy : ∀ c, y.head? = some c → isTag c = false) : nameP z p = p + x.length :=
  span_at h (fun c hc => by rw [tag_iff]; exact List.all_eq_true.mp hx c hc) fun c hc => by rw [tag_iff]; exact hy c hc
theorem skip_of {z : Str} {p : Nat} {x y : Cs} (h : Ds z p = x ++ y) (hx : x.all isBlank = true) (hy : ∀ c, y.head? = some c → isBlank c = false) : skipP z p = p + x.length :=
  span_at h (fun c hc => by rw [blank_iff]; exact List.all_eq_true.mp hx c hc) fun c hc => by rw [blank_iff]; exact hy c hc
end Mk

/-! markup: entities, and the steps of the parser -/
namespace Mk
open PySem PySem.Spec PyProof.Rows L2 Pr Dn
/-! entities -/
def pcOk (q : Cs × Nat) : Prop := (q.1 = [q.2] ∧ q.2 ≠ 38) ∨ q = ([38, 108, 116, 59], 60) ∨ q = ([38, 103, 116, 59], 62) ∨ q = ([38, 97, 109, 112, 59], 38) ∨ q = ([38, 113, 117, 111, 116, 59], 34)
theorem char_at {z : Str} {p c : Nat} {y : Cs} (h : Ds z p = c :: y) : charS z p = mkS [c] := by
  unfold charS
  have : z.cps.toList[p]? = some c := by
    have := congrArg (fun l => l[0]?) (show z.cps.toList.drop p = c :: y from h)
    rw [List.getElem?_drop] at this
    simpa using this
  rw [List.getD_eq_getElem?_getD, this]
  rfl
theorem weE_ent {z : Str} {n p : Nat} {f : Str} {nm y : Cs} {s : Str} (h : Ds z p = 38 :: (nm ++ 59 :: y)) (hn : 59 ∉ nm) (hs : aGet entS (mkS nm) = some s) : weE z (n + 1) p f = weE z n (p + (nm.length + 2)) (f ++ s) := by
  have hp := ds_le h
  have hf : Txt.find3 z ";" (p : Int) = ((p + (38 :: nm).length : Nat) : Int) := find1_hit (x := 38 :: nm) (c := 59) (y := y) h (fun k => (List.mem_cons.mp k).elim (by decide) hn)
  have hc : charS z p = "&" := char_at h
  have h1 : Ds z (p + 1) = nm ++ 59 :: y := ds_app (x := [38]) h
  have he : entN z p = mkS nm := by
    unfold entN
    rw [hf, if_pos (by omega), show ((p : Int) + 1) = ((p + 1 : Nat) : Int) by omega, show p + (38 :: nm).length = (p + 1) + nm.length by rw [List.length_cons]; omega]
    exact cut_at h1
  show (if _ then _ else _) = _
  rw [if_pos hp, if_neg (fun k => k hc), he, hs, hf, Int.toNat_natCast]
  show weE z n _ _ = _
  rw [show p + (38 :: nm).length + 1 = p + (nm.length + 2) by rw [List.length_cons]; omega]
theorem weE_chr {z : Str} {n p c : Nat} {f : Str} {y : Cs} (h : Ds z p = c :: y) (hc : c ≠ 38) : weE z (n + 1) p f = weE z n (p + 1) (f ++ mkS [c]) := by
  have e := char_at h
  show (if _ then _ else _) = _
  rw [if_pos (ds_le h), if_pos (by rw [e]; exact fun k => hc (by have := mkS_inj (b := [38]) k; injection this)), e]
theorem we_run {z : Str} : ∀ (ps : List (Cs × Nat)) (p n : Nat) (f : Str), Ds z p = ps.flatMap (·.1) → (∀ q ∈ ps, pcOk q) → p ≤ z.length → z.length ≤ n + p → weE z n p f = some (f ++ mkS (ps.map (·.2)))
  | [], p, n, f, h, _, hp, hn => by
    rw [weE_end (fun k => by have := ds_len h hp; rw [List.flatMap_nil, List.length_nil] at this; omega)]
    show some f = some (f ++ (⟨#[]⟩ : Str))
    rw [show f ++ (⟨#[]⟩ : Str) = f from by show (⟨f.cps ++ #[]⟩ : Str) = f; rw [Array.append_empty]]
  | q :: ps, p, n, f, h, hq, hp, hn => by
    have hl := ds_len h hp
    rw [List.flatMap_cons] at h
    have h2 := ds_app h
    have q1 : 0 < q.1.length := by
      rcases hq q List.mem_cons_self with ⟨e, _⟩ | rfl | rfl | rfl | rfl
      · rw [e]; exact Nat.zero_lt_one
      all_goals decide
    rw [List.flatMap_cons, List.length_append] at hl
    obtain ⟨n, rfl⟩ : ∃ k, n = k + 1 := ⟨n - 1, by omega⟩
    have ih := we_run ps (p + q.1.length) n (f ++ mkS [q.2]) h2 (fun r hr => hq r (List.mem_cons_of_mem _ hr)) (by omega) (by omega)
    have e0 : f ++ mkS [q.2] ++ mkS (ps.map (·.2)) = f ++ mkS ((q :: ps).map (·.2)) := by
      have e : f ++ mkS [q.2] ++ mkS (ps.map (·.2)) = f ++ (mkS [q.2] ++ mkS (ps.map (·.2))) := by
        show (⟨f.cps ++ (mkS [q.2]).cps ++ (mkS (ps.map (·.2))).cps⟩ : Str) = ⟨f.cps ++ ((mkS [q.2]).cps ++ (mkS (ps.map (·.2))).cps)⟩
        rw [Array.append_assoc]
      rw [e, mkS_app [q.2] (ps.map (·.2))]
      rfl
    rw [e0] at ih
    rcases hq q List.mem_cons_self with ⟨e, h38⟩ | rfl | rfl | rfl | rfl
    · rw [e] at h ih
      rw [weE_chr (y := ps.flatMap (·.1)) h h38]
      exact ih
    · rw [weE_ent (nm := [108, 116]) (s := "<") (y := ps.flatMap (·.1)) h (by decide) (by decide +kernel)]; exact ih
    · rw [weE_ent (nm := [103, 116]) (s := ">") (y := ps.flatMap (·.1)) h (by decide) (by decide +kernel)]; exact ih
    · rw [weE_ent (nm := [97, 109, 112]) (s := "&") (y := ps.flatMap (·.1)) h (by decide) (by decide +kernel)]; exact ih
    · rw [weE_ent (nm := [113, 117, 111, 116]) (s := "\"") (y := ps.flatMap (·.1)) h (by decide) (by decide +kernel)]; exact ih
theorem ent_of (ps : List (Cs × Nat)) (hq : ∀ q ∈ ps, pcOk q) : withEnt (mkS (ps.flatMap (·.1))) = some (mkS (ps.map (·.2))) := by
  unfold withEnt
  rw [we_run (z := mkS (ps.flatMap (·.1))) ps 0 _ "" rfl hq (Nat.zero_le _) (by omega)]
  show some ((⟨#[]⟩ : Str) ++ _) = _
  rw [mkS_app [] _]
  rfl
/-- a text without entities -/
theorem ent_plain (x : Cs) (h : 38 ∉ x) : withEnt (mkS x) = some (mkS x) := by
  have := ent_of (x.map fun c => ([c], c)) fun q hq => by
    obtain ⟨c, hc, rfl⟩ := List.mem_map.mp hq
    exact .inl ⟨rfl, fun e => h (by rw [← show c = 38 from e]; exact hc)⟩
  rw [List.flatMap_map, List.map_map] at this
  rw [show (x.flatMap fun c => [c]) = x from List.flatMap_singleton' x, show x.map ((fun q : Cs × Nat => q.2) ∘ fun c => ([c], c)) = x from List.map_id x] at this
  exact this
/-! what comes first -/
theorem here_ne {z : Str} {p n c : Nat} {x : Cs} (h : Ds z p = c :: x) (hn : 0 < n) : hereS z p n ≠ "" := by
  rw [here_at h]
  obtain ⟨n, rfl⟩ : ∃ k, n = k + 1 := ⟨n - 1, by omega⟩
  exact fun k => by cases mkS_inj (a := c :: x.take n) (b := []) k
theorem here_nil {z : Str} {p n : Nat} (h : Ds z p = []) : hereS z p n = "" := by
  rw [here_at h, List.take_nil]
  rfl
def textM (m : PM) (t : Str) : PM := if Txt.stripChars t " \n" ≠ "" ∨ tagOf m (lastO m) ∉ blocksL then addText m (lastO m) t else m
theorem step_text {z : Str} {p : Nat} {m : PM} {x y : Cs} {t : Str} (h : Ds z p = x ++ y) (hp : p ≤ z.length) (x0 : x ≠ []) (hx : 60 ∉ x) (hy : y = [] ∨ y.head? = some 60) (ht : withEnt (mkS x) = some t) : stepF z p m = some (p + x.length, textM m t) := by
  obtain ⟨c, x', rfl⟩ := List.exists_cons_of_ne_nil x0
  have hc : c ≠ 60 := fun e => hx (e ▸ List.mem_cons_self)
  unfold stepF
  have hne : ∀ (n : Nat) (l : Cs), hereS z p (n + 1) ≠ mkS (60 :: l) := fun n l k => by
    rw [here_at h] at k
    have := mkS_inj (a := c :: (x' ++ y).take n) k
    injection this with this _
    exact hc this
  rw [if_neg (show ¬ hereS z p 4 = "<!--" from hne 3 [33, 45, 45]), if_neg (show ¬ hereS z p 2 = "</" from hne 1 [47]), if_neg (show ¬ hereS z p 1 = "<" from hne 0 [])]
  unfold textF
  have he : endT z p = p + (c :: x').length := by
    unfold endT
    rcases hy with rfl | hy
    · rw [List.append_nil] at h
      have hf : Txt.find3 z "<" (p : Int) = -1 := find1_miss h hp hx
      rw [hf, if_pos (by decide), ds_len h hp]
    · cases y with
      | nil => cases hy
      | cons d y =>
        cases (show d = 60 from by injection hy)
        have hf : Txt.find3 z "<" (p : Int) = _ := find1_hit h hx
        rw [hf, if_neg (by omega), Int.toNat_natCast]
  rw [he, cut_at h, ht]
  rfl
theorem head_take {y : Cs} {c : Nat} (h : y.head? = some c) : ∃ r, y = c :: r := by
  cases y with
  | nil => cases h
  | cons d r => cases h; exact ⟨r, rfl⟩
/-- the end of an element -/
theorem step_end {z : Str} {p : Nat} {m : PM} {nm bl y : Cs} (h : Ds z p = 60 :: 47 :: (nm ++ (bl ++ 62 :: y))) (n0 : nm ≠ []) (hn : nm.all isTag = true) (hb : bl.all isBlank = true) :
    stepF z p m = if placesF m (mkS nm) = [] then none else some (p + (nm.length + bl.length + 3), { m with opn := m.opn.take ((placesF m (mkS nm)).getLastD 0) }) := by
  have h2 : Ds z (p + 2) = nm ++ (bl ++ 62 :: y) := ds_app (x := [60, 47]) h
  have h3 := ds_app h2
  have h4 := ds_app h3
  have nb : ∀ c, (bl ++ 62 :: y).head? = some c → isTag c = false := fun c hc => by
    cases bl with
    | nil => cases hc; decide
    | cons b bl =>
      cases hc
      have := List.all_eq_true.mp hb c List.mem_cons_self
      unfold isBlank at this
      rw [Bool.or_eq_true, beq_iff_eq, beq_iff_eq] at this
      rcases this with rfl | rfl <;> decide
  have e1 : nameP z (p + 2) = p + 2 + nm.length := name_of h2 hn nb
  have e2 : skipP z (p + 2 + nm.length) = p + 2 + nm.length + bl.length := skip_of h3 hb fun c hc => by cases hc; decide
  have e3 : hereS z (p + 2 + nm.length + bl.length) 1 = ">" := here_at h4
  have e4 := cut_at h2
  unfold stepF
  rw [if_neg (fun k => by rw [here_at h] at k; have := mkS_inj (b := [60, 33, 45, 45]) k; injection this with _ this; injection this with this _; cases this), if_pos (show hereS z p 2 = "</" from here_at h)]
  unfold endF
  rw [e1, if_neg (by have := List.length_pos_iff.mpr n0; omega), e2, e3, if_neg (fun k => k rfl), e4]
  refine ite_congr rfl (fun _ => rfl) fun _ => ?_
  rw [show p + 2 + nm.length + bl.length + 1 = p + (nm.length + bl.length + 3) by omega]
/-! attributes -/
structure At1 where
  nm : Cs
  v : Option (Cs × Cs)
def At1.tx (a : At1) : Cs := 32 :: (a.nm ++ match a.v with
  | none => []
  | some (r : Cs × Cs) => 61 :: 34 :: (r.1 ++ [34]))
def At1.fd (a : At1) : Str × Str := (mkS a.nm, match a.v with
  | none => ""
  | some r => mkS r.2)
structure At1.Ok (a : At1) : Prop where
  n0 : a.nm ≠ []
  nt : a.nm.all isTag = true
  v : ∀ r, a.v = some r → 34 ∉ r.1 ∧ withEnt (mkS r.1) = some (mkS r.2)
theorem attr_run {z : Str} : ∀ (as : List At1) (p n : Nat) (fd : List (Str × Str)) (y : Cs), Ds z p = as.flatMap At1.tx ++ 62 :: y → (∀ a ∈ as, a.Ok) → (fd.map (·.1) ++ as.map fun a => mkS a.nm).Nodup → as.length < n →
    attrE z n (skipP z p) fd = some (fd ++ as.map At1.fd, p + (as.flatMap At1.tx).length + 1)
  | [], p, n + 1, fd, y, h, _, _, _ => by
    have h : Ds z p = 62 :: y := h
    have e : skipP z p = p := skip_of (x := []) h rfl fun c hc => by cases hc; decide
    have e2 : upP z ">" p = _ := up1_hit (x := []) (c := 62) (y := y) h nofun
    rw [e]
    show (if _ then _ else _) = _
    rw [if_pos (.inr (here_at h)), e2, List.map_nil, List.append_nil]
    rfl
  | a :: as, p, n + 1, fd, y, h, ha, nd, hn => by
    have ok := ha a List.mem_cons_self
    obtain ⟨c, nm', en⟩ := List.exists_cons_of_ne_nil ok.n0
    have ct : isTag c = true := List.all_eq_true.mp ok.nt c (by rw [en]; exact List.mem_cons_self)
    have cb : isBlank c = false := by
      unfold isBlank
      refine Bool.or_eq_false_iff.mpr ⟨beq_eq_false_iff_ne.mpr ?_, beq_eq_false_iff_ne.mpr ?_⟩ <;> (rintro rfl; revert ct; decide)
    have c62 : c ≠ 62 := by rintro rfl; revert ct; decide
    have c61 : isTag 61 = false := by decide
    have h0 : Ds z p = [32] ++ (a.nm ++ ((match a.v with | none => [] | some (r : Cs × Cs) => 61 :: 34 :: (r.1 ++ [34])) ++ (as.flatMap At1.tx ++ 62 :: y))) := by
      rw [h, List.flatMap_cons]
      unfold At1.tx
      simp only [List.cons_append, List.append_assoc, List.nil_append]
    have h1 : Ds z (p + 1) = _ := ds_app h0
    have es : skipP z p = p + 1 := skip_of h0 (by decide) fun d hd => by rw [en] at hd; cases hd; exact cb
    have hl : (a.nm ++ ((match a.v with | none => [] | some (r : Cs × Cs) => 61 :: 34 :: (r.1 ++ [34])) ++ (as.flatMap At1.tx ++ 62 :: y))) = c :: (nm' ++ ((match a.v with | none => [] | some (r : Cs × Cs) => 61 :: 34 :: (r.1 ++ [34])) ++ (as.flatMap At1.tx ++ 62 :: y))) := by rw [en]; rfl
    have hh : hereS z (p + 1) 1 = mkS [c] := by
      rw [here_at h1, hl]
      rfl
    have nn : ∀ d, ((match a.v with | none => [] | some (r : Cs × Cs) => 61 :: 34 :: (r.1 ++ [34])) ++ (as.flatMap At1.tx ++ 62 :: y)).head? = some d → isTag d = false := fun d hd => by
      cases ev : a.v with
      | none =>
        rw [ev] at hd
        cases as with
        | nil => cases hd; decide
        | cons b bs => rw [List.flatMap_cons] at hd; cases hd; decide
      | some r => rw [ev] at hd; cases hd; decide
    have np : nameP z (p + 1) = p + 1 + a.nm.length := name_of h1 ok.nt nn
    have h2 := ds_app h1
    have hk : (aGet fd (mkS a.nm)).isSome = false := by
      cases e : aGet fd (mkS a.nm) with
      | none => rfl
      | some v =>
        exfalso
        rw [List.map_cons, List.nodup_append] at nd
        exact nd.2.2 _ (List.mem_map.mpr ⟨_, aGet_mem e, rfl⟩) _ List.mem_cons_self rfl
    have nd2 : ∀ v : Str, ((fd ++ [(mkS a.nm, v)]).map (·.1) ++ as.map fun a => mkS a.nm).Nodup := fun v => by
      rw [List.map_append, List.append_assoc]
      exact nd
    have step : ∀ (v : Str) q (y : Cs), Ds z q = as.flatMap At1.tx ++ 62 :: y → attrE z n (skipP z q) (fd ++ [(mkS a.nm, v)]) = some (fd ++ [(mkS a.nm, v)] ++ as.map At1.fd, q + (as.flatMap At1.tx).length + 1) := fun v q y hq =>
      attr_run as q n _ y hq (fun b hb => ha b (List.mem_cons_of_mem _ hb)) (nd2 v) (by rw [List.length_cons] at hn; omega)
    rw [es]
    show (if _ then _ else _) = _
    rw [if_neg (by
      rw [hh]
      rintro (k | k)
      · cases mkS_inj (b := []) k
      · have := mkS_inj (b := [62]) k
        injection this with this
        exact c62 this), np, if_neg (by rw [en, List.length_cons]; omega), cut_at h1, hk, if_neg (by decide)]
    cases ev : a.v with
    | none =>
      rw [ev] at h2
      have h2 : Ds z (p + 1 + a.nm.length) = as.flatMap At1.tx ++ 62 :: y := h2
      have hq : hereS z (p + 1 + a.nm.length) 1 ≠ "=" := by
        rw [here_at h2]
        intro k
        cases as with
        | nil => cases mkS_inj (a := [62]) (b := [61]) k
        | cons b bs => cases mkS_inj (a := [32]) (b := [61]) k
      rw [if_neg hq, step _ _ y h2, List.flatMap_cons, List.length_append]
      unfold At1.tx
      rw [ev]
      refine congrArg some (Prod.ext ?_ ?_)
      · show fd ++ [_] ++ as.map At1.fd = fd ++ (At1.fd a :: as.map At1.fd)
        rw [List.append_assoc]
        unfold At1.fd
        rw [ev]
        rfl
      · simp only [List.length_cons, List.append_nil]
        omega
    | some r =>
      obtain ⟨q34, we⟩ := ok.v r ev
      rw [ev] at h2
      have h2 : Ds z (p + 1 + a.nm.length) = ([61, 34] : Cs) ++ (r.1 ++ 34 :: (as.flatMap At1.tx ++ 62 :: y)) := by
        rw [h2]
        simp only [List.cons_append, List.append_assoc, List.nil_append]
      have h3 : Ds z (p + 1 + a.nm.length + 1) = 34 :: (r.1 ++ 34 :: (as.flatMap At1.tx ++ 62 :: y)) := ds_app (x := [61]) h2
      have h4 := ds_app h2
      have up : upP z "\"" (p + 1 + a.nm.length + 2) = some (mkS r.1, p + 1 + a.nm.length + 2 + r.1.length + 1) := up1_hit h4 q34
      have h5 : Ds z (p + 1 + a.nm.length + 2 + r.1.length + 1) = as.flatMap At1.tx ++ 62 :: y := ds_app (x := [34]) (ds_app h4)
      rw [if_pos (show hereS z (p + 1 + a.nm.length) 1 = "=" from here_at h2), if_neg (fun k => k (show hereS z (p + 1 + a.nm.length + 1) 1 = "\"" from here_at h3)), up]
      show (withEnt _).bind _ = _
      rw [we]
      show attrE z n (skipP z (p + 1 + a.nm.length + 2 + r.1.length + 1)) _ = _
      rw [step _ _ y h5, List.flatMap_cons, List.length_append]
      unfold At1.tx
      rw [ev]
      refine congrArg some (Prod.ext ?_ ?_)
      · show fd ++ [_] ++ as.map At1.fd = fd ++ (At1.fd a :: as.map At1.fd)
        rw [List.append_assoc]
        unfold At1.fd
        rw [ev]
        rfl
      · simp only [List.length_cons, List.length_append, List.length_nil]
        omega
/-- the beginning of an element -/
theorem step_start {z : Str} {p : Nat} {m : PM} {nm y : Cs} {as : List At1} (h : Ds z p = 60 :: (nm ++ (as.flatMap At1.tx ++ 62 :: y))) (hp : p ≤ z.length) (n0 : nm ≠ []) (hn : nm.all isTag = true) (ha : ∀ a ∈ as, a.Ok) (nd : (as.map fun a => mkS a.nm).Nodup) :
    stepF z p m = if mkS nm = "html" then none else if (closeF m (mkS nm)).opn.length ≥ 60 then none else startG z (mkS nm) (as.map At1.fd) (p + (nm.length + (as.flatMap At1.tx).length + 2)) (closeF m (mkS nm)) := by
  have h1 : Ds z (p + 1) = nm ++ (as.flatMap At1.tx ++ 62 :: y) := ds_app (x := [60]) h
  obtain ⟨c, nm', en⟩ := List.exists_cons_of_ne_nil n0
  have ct : isTag c = true := List.all_eq_true.mp hn c (by rw [en]; exact List.mem_cons_self)
  have nn : ∀ d, (as.flatMap At1.tx ++ 62 :: y).head? = some d → isTag d = false := fun d hd => by
    cases as with
    | nil => cases hd; decide
    | cons b bs => rw [List.flatMap_cons] at hd; cases hd; decide
  have e1 : nameP z (p + 1) = p + 1 + nm.length := name_of h1 hn nn
  have h2 := ds_app h1
  have hl := ds_len h2 (by have := ds_len h hp; rw [List.length_cons, List.length_append] at this; omega)
  have e2 : attrF z (p + 1 + nm.length) = some (as.map At1.fd, p + 1 + nm.length + (as.flatMap At1.tx).length + 1) := by
    have la : as.length ≤ (as.flatMap At1.tx).length := by
      clear e1 h2 hl nn ct en h1 h hp n0 hn ha nd
      induction as with
      | nil => exact Nat.le_refl _
      | cons a as ih =>
        rw [List.flatMap_cons, List.length_append, List.length_cons]
        unfold At1.tx at ih ⊢
        rw [List.length_cons]
        omega
    exact attr_run as _ _ [] y h2 ha nd (by rw [List.length_append, List.length_cons] at hl; omega)
  unfold stepF
  have hne : ∀ (n d : Nat) (l : Cs), isTag d = false → hereS z p (n + 2) ≠ mkS (60 :: d :: l) := fun n d l hd k => by
    rw [here_at h, en] at k
    have := mkS_inj (a := 60 :: c :: _) k
    injection this with _ this
    injection this with this _
    rw [this, hd] at ct
    cases ct
  rw [if_neg (show ¬ hereS z p 4 = "<!--" from hne 2 33 [45, 45] (by decide)), if_neg (show ¬ hereS z p 2 = "</" from hne 0 47 [] (by decide)), if_pos (show hereS z p 1 = "<" from here_at h)]
  unfold startF
  rw [e1, if_neg (by have := List.length_pos_iff.mpr n0; omega), e2]
  show (if cutS z (some ((p + 1 : Nat) : Int)) (some ((p + 1 + nm.length : Nat) : Int)) = _ then _ else _) = _
  rw [cut_at h1, show p + 1 + nm.length + (as.flatMap At1.tx).length + 1 = p + (nm.length + (as.flatMap At1.tx).length + 2) by omega]
/-! steps in a row -/
inductive Run (z : Str) : Nat → PM → Nat → PM → Prop where
  | refl {p m} : Run z p m p m
  | step {p m p1 m1 p2 m2} (h0 : hereS z p 1 ≠ "") (h : stepF z p m = some (p1, m1)) (lt : p < p1) (r : Run z p1 m1 p2 m2) : Run z p m p2 m2
theorem Run.trans {z : Str} {p p1 p2 : Nat} {m m1 m2 : PM} (a : Run z p m p1 m1) (b : Run z p1 m1 p2 m2) : Run z p m p2 m2 := by
  induction a with
  | refl => exact b
  | step h0 h lt r ih => exact .step h0 h lt (ih b)
theorem Run.one {z : Str} {p p1 : Nat} {m m1 : PM} (h0 : hereS z p 1 ≠ "") (h : stepF z p m = some (p1, m1)) (lt : p < p1) : Run z p m p1 m1 := .step h0 h lt .refl
theorem Run.build {z : Str} {p p2 : Nat} {m m2 : PM} (a : Run z p m p2 m2) : ∀ n, z.length < n + p → ∃ n', z.length < n' + p2 ∧ buildE z n p m = buildE z n' p2 m2 := by
  induction a with
  | refl => exact fun n hn => ⟨n, hn, rfl⟩
  | @step p m p1 m1 p2 m2 h0 h lt r ih =>
    intro n hn
    have hp := here_lt h0
    obtain ⟨n, rfl⟩ : ∃ k, n = k + 1 := ⟨n - 1, by omega⟩
    obtain ⟨n', h1, h2⟩ := ih n (by omega)
    refine ⟨n', h1, ?_⟩
    rw [← h2]
    show (if _ then _ else _) = _
    rw [if_neg h0, h]
    rfl
theorem parse_of {z : Str} {m : PM} (r : Run z 0 rootM z.length m) : parseF z = some m := by
  obtain ⟨n, h1, h2⟩ := r.build (z.length + 1) (by omega)
  unfold parseF
  rw [h2]
  obtain ⟨n, rfl⟩ : ∃ k, n = k + 1 := ⟨n - 1, by omega⟩
  show (if _ then _ else _) = _
  rw [if_pos (here_nil (List.drop_eq_nil_of_le (by rw [Array.length_toList]; exact Nat.le_refl _)))]
end Mk

/-! markup: trees, their nodes by number, texts that read as trees -/
namespace Mk
open PySem PySem.Spec PyProof.Rows L2 Pr Dn
inductive Tr where
  | tx (z : Str)
  | el (tag : Str) (fd : List (Str × Str)) (c : List Tr)
instance : Inhabited Tr := ⟨.tx ""⟩
mutual
def size : Tr → Nat
  | .tx _ => 1
  | .el _ _ c => 1 + sizeL c
def sizeL : List Tr → Nat
  | [] => 0
  | t :: r => size t + sizeL r
end
def nums : Nat → List Tr → List Nat
  | _, [] => []
  | i, t :: r => i :: nums (i + size t) r
mutual
def flat (i : Nat) (par : Option Nat) : Tr → List PN
  | .tx z => [{ textN z with par := par }]
  | .el tag fd c => { elemN tag fd with par := par, kids := nums (i + 1) c } :: flatL (i + 1) (some i) c
def flatL (i : Nat) (par : Option Nat) : List Tr → List PN
  | [] => []
  | t :: r => flat i par t ++ flatL (i + size t) par r
end
theorem size_pos (t : Tr) : 0 < size t := by
  cases t with
  | tx z => exact Nat.zero_lt_one
  | el a b c => show 0 < 1 + _; omega
mutual
theorem flat_len : ∀ (t : Tr) (i : Nat) (par : Option Nat), (flat i par t).length = size t
  | .tx _, _, _ => rfl
  | .el _ _ c, i, par => by
    show (flatL (i + 1) (some i) c).length + 1 = 1 + sizeL c
    rw [flatL_len c, Nat.add_comm]
theorem flatL_len : ∀ (ts : List Tr) (i : Nat) (par : Option Nat), (flatL i par ts).length = sizeL ts
  | [], _, _ => rfl
  | t :: r, i, par => by
    show (flat i par t ++ flatL _ par r).length = size t + sizeL r
    rw [List.length_append, flat_len t, flatL_len r]
end
theorem sizeL_app : ∀ (a b : List Tr), sizeL (a ++ b) = sizeL a + sizeL b
  | [], b => by rw [List.nil_append]; exact (Nat.zero_add _).symm
  | t :: r, b => by
    show size t + sizeL (r ++ b) = size t + sizeL r + sizeL b
    rw [sizeL_app r b, Nat.add_assoc]
theorem nums_app : ∀ (a b : List Tr) (i : Nat), nums i (a ++ b) = nums i a ++ nums (i + sizeL a) b
  | [], b, i => rfl
  | t :: r, b, i => by
    show i :: nums (i + size t) (r ++ b) = i :: (nums (i + size t) r ++ nums (i + (size t + sizeL r)) b)
    rw [nums_app r b, Nat.add_assoc]
theorem flatL_app : ∀ (a b : List Tr) (i : Nat) (par : Option Nat), flatL i par (a ++ b) = flatL i par a ++ flatL (i + sizeL a) par b
  | [], b, i, par => rfl
  | t :: r, b, i, par => by
    show flat i par t ++ flatL (i + size t) par (r ++ b) = flat i par t ++ flatL (i + size t) par r ++ flatL (i + (size t + sizeL r)) par b
    rw [flatL_app r b, Nat.add_assoc, List.append_assoc]
/-- trees more, the last children of pa -/
def addL (m : PM) (pa : Nat) (ts : List Tr) : PM := { m with N := m.N.set pa { nod m pa with kids := (nod m pa).kids ++ nums m.N.length ts } ++ flatL m.N.length (some pa) ts }
theorem addL_len {m : PM} {pa : Nat} {ts : List Tr} : (addL m pa ts).N.length = m.N.length + sizeL ts := by
  show (m.N.set pa _ ++ flatL m.N.length (some pa) ts).length = _
  rw [List.length_append, List.length_set, flatL_len]
theorem addL_nil {m : PM} {pa : Nat} (h : pa < m.N.length) : addL m pa [] = m := by
  unfold addL
  show ({ m with N := m.N.set pa { nod m pa with kids := (nod m pa).kids ++ [] } ++ [] } : PM) = m
  rw [List.append_nil, List.append_nil]
  have e : m.N.set pa (nod m pa) = m.N := by
    refine List.ext_getElem? fun i => ?_
    rw [List.getElem?_set]
    split
    · rename_i e
      rw [← e]
      exact (nod_get h).symm
    · rfl
  show ({ m with N := m.N.set pa (nod m pa) } : PM) = m
  rw [e]
theorem nod_addL {m : PM} {pa i : Nat} {ts : List Tr} (hi : i < m.N.length) : nod (addL m pa ts) i = if i = pa then { nod m pa with kids := (nod m pa).kids ++ nums m.N.length ts } else nod m i := by
  refine nod_at ?_
  show (m.N.set pa _ ++ _)[i]? = _
  rw [List.getElem?_append_left (by rw [List.length_set]; exact hi), List.getElem?_set]
  by_cases h : pa = i
  · subst h
    rw [if_pos rfl, if_pos hi, if_pos rfl]
  · rw [if_neg h, if_neg (fun z => h z.symm), nod_get hi]
theorem addL_app {m : PM} {pa : Nat} {a b : List Tr} (h : pa < m.N.length) : addL (addL m pa a) pa b = addL m pa (a ++ b) := by
  have e := nod_addL (pa := pa) (ts := a) h
  rw [if_pos rfl] at e
  have el := addL_len (m := m) (pa := pa) (ts := a)
  unfold addL at e el ⊢
  rw [e, el, flatL_app, nums_app]
  refine congrArg (fun N => ({ N := N, opn := m.opn } : PM)) ?_
  rw [List.set_append_left _ _ (by rw [List.length_set]; exact h), List.set_set, List.append_assoc, ← List.append_assoc (nod m pa).kids]
theorem addL_tx {m : PM} {pa : Nat} {z : Str} : addText m pa z = addL m pa [.tx z] := rfl
theorem addL_el {m : PM} {pa : Nat} {tag : Str} {fd : List (Str × Str)} {c : List Tr} (h : pa < m.N.length) (o : List Nat) : ({ addL { pushF m pa (elemN tag fd) with opn := o } m.N.length c with opn := m.opn } : PM) = addL m pa [.el tag fd c] := by
  have hl : (pushF m pa (elemN tag fd)).N.length = m.N.length + 1 := push_len
  have hn : nod ({ pushF m pa (elemN tag fd) with opn := o } : PM) m.N.length = { elemN tag fd with par := some pa } := nod_at push_new
  unfold addL
  rw [hn, show ({ pushF m pa (elemN tag fd) with opn := o } : PM).N.length = m.N.length + 1 from hl]
  refine congrArg (fun N => ({ N := N, opn := m.opn } : PM)) ?_
  show (m.N.set pa _ ++ [_]).set m.N.length _ ++ _ = _
  rw [List.set_append_right _ _ (by rw [List.length_set]; exact Nat.le_refl _), List.length_set, Nat.sub_self]
  show m.N.set pa _ ++ [{ elemN tag fd with par := some pa, kids := [] ++ nums (m.N.length + 1) c }] ++ flatL (m.N.length + 1) (some m.N.length) c = m.N.set pa _ ++ ({ elemN tag fd with par := some pa, kids := nums (m.N.length + 1) c } :: flatL (m.N.length + 1) (some m.N.length) c ++ [])
  rw [List.append_assoc, List.nil_append, List.append_nil]
  rfl
/-- a void element -/
theorem addL_vd {m : PM} {pa : Nat} {tag : Str} {fd : List (Str × Str)} : pushF m pa (elemN tag fd) = addL m pa [.el tag fd []] := rfl
/-! texts that read as trees -/
structure OpenOk (d : Nat) (m : PM) : Prop where
  ne : m.opn ≠ []
  lt : ∀ a ∈ m.opn, a < m.N.length
  tg : ∀ a ∈ m.opn, tagOf m a ≠ "p" ∧ tagOf m a ≠ "li"
  mx : m.opn.length + d ≤ 59
theorem OpenOk.last {d : Nat} {m : PM} (h : OpenOk d m) : lastO m ∈ m.opn := by
  unfold lastO
  rw [List.getLastD_eq_getLast?, List.getLast?_eq_some_getLast h.ne]
  exact List.getLast_mem _
theorem tag_addL {m : PM} {pa i : Nat} {ts : List Tr} (hi : i < m.N.length) : tagOf (addL m pa ts) i = tagOf m i := by
  unfold tagOf
  rw [nod_addL hi]
  split
  · rename_i h; rw [h]
  · rfl
theorem OpenOk.add {d : Nat} {m : PM} (h : OpenOk d m) (pa : Nat) (ts : List Tr) : OpenOk d (addL m pa ts) :=
  ⟨h.ne, fun a ha => by rw [addL_len]; exact Nat.lt_add_right _ (h.lt a ha), fun a ha => by rw [tag_addL (h.lt a ha)]; exact h.tg a ha, h.mx⟩
theorem OpenOk.mono {d e : Nat} {m : PM} (h : OpenOk d m) (he : e ≤ d) : OpenOk e m := ⟨h.ne, h.lt, h.tg, by have := h.mx; omega⟩
theorem OpenOk.push {d : Nat} {m : PM} (h : OpenOk (d + 1) m) {tag : Str} {fd : List (Str × Str)} (ht : tag ≠ "p" ∧ tag ≠ "li") : OpenOk d ({ pushF m (lastO m) (elemN tag fd) with opn := m.opn ++ [m.N.length] } : PM) := by
  have hl : (pushF m (lastO m) (elemN tag fd)).N.length = m.N.length + 1 := push_len
  refine ⟨by simp, fun a ha => ?_, fun a ha => ?_, ?_⟩
  · show a < (pushF m (lastO m) (elemN tag fd)).N.length
    rw [hl]
    rcases List.mem_append.mp ha with ha | ha
    · exact Nat.lt_succ_of_lt (h.lt a ha)
    · rw [List.mem_singleton.mp ha]; exact Nat.lt_succ_self _
  · rcases List.mem_append.mp ha with ha | ha
    · have e : tagOf ({ pushF m (lastO m) (elemN tag fd) with opn := m.opn ++ [m.N.length] } : PM) a = tagOf m a := by
        show ((nod (pushF m (lastO m) (elemN tag fd)) a).tag).getD "" = _
        rw [nod_push_tag (h.lt a ha)]
        rfl
      rw [e]
      exact h.tg a ha
    · rw [List.mem_singleton.mp ha]
      have e : tagOf ({ pushF m (lastO m) (elemN tag fd) with opn := m.opn ++ [m.N.length] } : PM) m.N.length = tag := by
        show ((nod (pushF m (lastO m) (elemN tag fd)) m.N.length).tag).getD "" = _
        rw [nod_at push_new]
        rfl
      rw [e]
      exact ht
  · show (m.opn ++ [_]).length + d ≤ 59
    rw [List.length_append, List.length_singleton]
    have := h.mx
    omega
theorem liPlace_le (m : PM) : ∀ k, liPlace m k ≤ k
  | 0 => Nat.le_refl 0
  | k + 1 => by
    show (if _ then _ else _) ≤ _
    split
    · exact Nat.le_refl _
    · exact Nat.le_succ_of_le (liPlace_le m k)
theorem OpenOk.close {d : Nat} {m : PM} (h : OpenOk d m) (tag : Str) : closeF m tag = m := by
  have e : closeP m tag = m := by
    unfold closeP
    rw [if_neg fun k => (h.tg _ h.last).1 k.2]
  unfold closeF
  rw [e]
  split
  · rw [if_neg fun k => ?_]
    have lp := List.length_pos_iff.mpr h.ne
    have hlt : liPlace m (m.opn.length - 1) < m.opn.length := Nat.lt_of_le_of_lt (liPlace_le m _) (by omega)
    rw [List.getD_eq_getElem?_getD, List.getElem?_eq_getElem hlt] at k
    exact (h.tg _ (List.getElem_mem hlt)).2 k
  · rfl
/-- the text x reads as the trees ts, below d levels -/
def Draws (d : Nat) (x : Cs) (ts : List Tr) : Prop := ∀ (z : Str) (p : Nat) (m : PM) (y : Cs), Ds z p = x ++ y → p ≤ z.length → (y = [] ∨ y.head? = some 60) → OpenOk d m → Run z p m (p + x.length) (addL m (lastO m) ts)
theorem Draws.nil {d : Nat} : Draws d [] [] := fun z p m y h hp hy ok => by
  rw [addL_nil (ok.lt _ ok.last)]
  exact .refl
theorem last_add {m : PM} {pa : Nat} {ts : List Tr} : lastO (addL m pa ts) = lastO m := rfl
theorem Draws.app {d : Nat} {x1 x2 : Cs} {t1 t2 : List Tr} (a : Draws d x1 t1) (b : Draws d x2 t2) (h2 : x2 = [] ∨ x2.head? = some 60) : Draws d (x1 ++ x2) (t1 ++ t2) := fun z p m y h hp hy ok => by
  rw [List.append_assoc] at h
  have hl := ds_len h hp
  rw [List.length_append] at hl
  have r1 := a z p m (x2 ++ y) h hp (by
    rcases h2 with rfl | h2
    · exact hy
    · obtain ⟨r, rfl⟩ := head_take h2
      exact .inr rfl) ok
  have r2 := b z (p + x1.length) (addL m (lastO m) t1) y (ds_app h) (by omega) hy (ok.add _ _)
  rw [last_add, addL_app (ok.lt _ ok.last)] at r2
  rw [List.length_append, ← Nat.add_assoc]
  exact r1.trans r2
theorem Draws.text {d : Nat} {x : Cs} {t : Str} (x0 : x ≠ []) (hx : 60 ∉ x) (ht : withEnt (mkS x) = some t) (hs : Txt.stripChars t " \n" ≠ "") : Draws d x [.tx t] := fun z p m y h hp hy ok => by
  obtain ⟨c, x', rfl⟩ := List.exists_cons_of_ne_nil x0
  refine Run.trans (Run.one (here_ne h Nat.zero_lt_one) (step_text h hp x0 hx hy ht) (by rw [List.length_cons]; omega)) ?_
  unfold textM
  rw [if_pos (.inl hs), addL_tx]
  exact .refl
theorem places_last {m : PM} {o : List Nat} {a : Nat} {tag : Str} (ho : m.opn = o ++ [a]) (h0 : o ≠ []) (ht : tagOf m a = tag) : placesF m tag ≠ [] ∧ (placesF m tag).getLastD 0 = o.length := by
  unfold placesF
  rw [ho, List.length_append, List.length_singleton, List.range_succ, List.filter_append]
  have e : [o.length].filter (fun k => decide (0 < k) && decide (tagOf m ((o ++ [a]).getD k 0) = tag)) = [o.length] := by
    rw [List.filter_cons, if_pos]
    · rfl
    · rw [Bool.and_eq_true, decide_eq_true_eq, decide_eq_true_eq]
      refine ⟨List.length_pos_iff.mpr h0, ?_⟩
      rw [List.getD_eq_getElem?_getD, List.getElem?_append_right (Nat.le_refl _), Nat.sub_self]
      exact ht
  rw [e]
  refine ⟨by simp, ?_⟩
  rw [List.getLastD_eq_getLast?, List.getLast?_append]
  rfl
theorem Draws.el {d : Nat} {tag : Str} {as : List At1} {x : Cs} {c : List Tr} (n0 : tag.cps.toList ≠ []) (hn : tag.cps.toList.all isTag = true) (ha : ∀ a ∈ as, a.Ok) (nd : (as.map fun a => mkS a.nm).Nodup)
    (ht : tag ≠ "html" ∧ tag ∉ rawL ∧ tag ∉ voids) (h : Draws d x c) (hp : (tag ≠ "p" ∧ tag ≠ "li") ∨ (x = [] ∧ c = []) ∨ ∃ t, x ≠ [] ∧ 60 ∉ x ∧ withEnt (mkS x) = some t ∧ Txt.stripChars t " \n" ≠ "" ∧ c = [.tx t]) :
    Draws (d + 1) (60 :: (tag.cps.toList ++ (as.flatMap At1.tx ++ 62 :: (x ++ 60 :: 47 :: (tag.cps.toList ++ [62]))))) [.el tag (as.map At1.fd) c] := fun z p m y h0 hz hy ok => by
  have h0 : Ds z p = 60 :: (tag.cps.toList ++ (as.flatMap At1.tx ++ 62 :: (x ++ 60 :: 47 :: (tag.cps.toList ++ ([] ++ 62 :: y))))) := by
    rw [h0]
    simp only [List.cons_append, List.append_assoc, List.nil_append]
  have hst := step_start (m := m) h0 hz n0 hn ha nd
  have ec := ok.close (mkS tag.cps.toList)
  have emk : mkS tag.cps.toList = tag := rfl
  have mx := ok.mx
  rw [ec, emk, if_neg ht.1, if_neg (by omega)] at hst
  unfold startG at hst
  rw [if_neg ht.2.1, if_pos ht.2.2] at hst
  refine .step (here_ne h0 Nat.zero_lt_one) hst (by omega) ?_
  have lp := ok.lt _ ok.last
  have hl := ds_len h0 hz
  have h1 : Ds z (p + (tag.cps.toList.length + (as.flatMap At1.tx).length + 2)) = x ++ 60 :: 47 :: (tag.cps.toList ++ ([] ++ 62 :: y)) := by
    have := ds_app (z := z) (p := p) (x := 60 :: (tag.cps.toList ++ (as.flatMap At1.tx ++ [62]))) (y := x ++ 60 :: 47 :: (tag.cps.toList ++ ([] ++ 62 :: y))) (by
      rw [h0]
      simp only [List.cons_append, List.append_assoc, List.nil_append])
    rw [← this]
    congr 1
    simp only [List.length_cons, List.length_append, List.length_nil]
    omega
  generalize hm1 : ({ pushF m (lastO m) (elemN tag (as.map At1.fd)) with opn := m.opn ++ [m.N.length] } : PM) = m1
  have e1 : lastO m1 = m.N.length := by
    rw [← hm1]
    unfold lastO
    show (m.opn ++ [m.N.length]).getLastD 0 = _
    rw [List.getLastD_eq_getLast?, List.getLast?_append]
    rfl
  have o1 : m1.opn = m.opn ++ [m.N.length] := by rw [← hm1]
  have l1 : m.N.length < m1.N.length := by
    rw [← hm1]
    show m.N.length < (pushF m (lastO m) (elemN tag (as.map At1.fd))).N.length
    rw [push_len]
    exact Nat.lt_succ_self _
  have t1 : tagOf m1 m.N.length = tag := by
    rw [← hm1]
    show ((nod (pushF m (lastO m) (elemN tag (as.map At1.fd))) m.N.length).tag).getD "" = _
    rw [nod_at push_new]
    rfl
  have hp1 : p + (tag.cps.toList.length + (as.flatMap At1.tx).length + 2) ≤ z.length := by
    rw [hl]
    simp only [List.length_cons, List.length_append, List.length_nil]
    omega
  have inner : Run z (p + (tag.cps.toList.length + (as.flatMap At1.tx).length + 2)) m1 (p + (tag.cps.toList.length + (as.flatMap At1.tx).length + 2) + x.length) (addL m1 m.N.length c) := by
    rcases hp with hp | ⟨rfl, rfl⟩ | ⟨t, x0, hx, hwe, hs, rfl⟩
    · have := h z _ m1 _ h1 hp1 (.inr rfl) (by rw [← hm1]; exact ok.push hp)
      rw [e1] at this
      exact this
    · rw [addL_nil l1]
      exact .refl
    · obtain ⟨c', x', rfl⟩ := List.exists_cons_of_ne_nil x0
      refine Run.trans (Run.one (here_ne h1 Nat.zero_lt_one) (step_text h1 hp1 x0 hx (.inr rfl) hwe) (by rw [List.length_cons]; omega)) ?_
      unfold textM
      rw [if_pos (.inl hs), addL_tx, e1]
      exact .refl
  refine inner.trans ?_
  have h2 := ds_app h1
  have pl := places_last (m := addL m1 m.N.length c) (o := m.opn) (a := m.N.length) (tag := mkS tag.cps.toList) o1 ok.ne (by rw [tag_addL l1]; exact t1)
  have he := step_end (m := addL m1 m.N.length c) h2 n0 hn rfl
  rw [if_neg pl.1, pl.2] at he
  refine .step (here_ne h2 Nat.zero_lt_one) he (by omega) ?_
  have eo : (addL m1 m.N.length c).opn.take m.opn.length = m.opn := by
    show m1.opn.take _ = _
    rw [o1, List.take_left]
  rw [eo, ← hm1]
  have := addL_el (m := m) (tag := tag) (fd := as.map At1.fd) (c := c) lp (m.opn ++ [m.N.length])
  rw [this]
  have el : p + (60 :: (tag.cps.toList ++ (as.flatMap At1.tx ++ 62 :: (x ++ 60 :: 47 :: (tag.cps.toList ++ [62]))))).length = p + (tag.cps.toList.length + (as.flatMap At1.tx).length + 2) + x.length + (tag.cps.toList.length + ([] : Cs).length + 3) := by
    simp only [List.length_cons, List.length_append, List.length_nil]
    omega
  rw [el]
  exact .refl
theorem Draws.vd {d : Nat} {tag : Str} {as : List At1} (n0 : tag.cps.toList ≠ []) (hn : tag.cps.toList.all isTag = true) (ha : ∀ a ∈ as, a.Ok) (nd : (as.map fun a => mkS a.nm).Nodup) (ht : tag ≠ "html" ∧ tag ∉ rawL ∧ tag ∈ voids) :
    Draws d (60 :: (tag.cps.toList ++ (as.flatMap At1.tx ++ [62]))) [.el tag (as.map At1.fd) []] := fun z p m y h0 hz hy ok => by
  have h0 : Ds z p = 60 :: (tag.cps.toList ++ (as.flatMap At1.tx ++ 62 :: y)) := by
    rw [h0]
    simp only [List.cons_append, List.append_assoc, List.nil_append]
  have hst := step_start (m := m) h0 hz n0 hn ha nd
  have ec := ok.close (mkS tag.cps.toList)
  have emk : mkS tag.cps.toList = tag := rfl
  have mx := ok.mx
  rw [ec, emk, if_neg ht.1, if_neg (by omega)] at hst
  unfold startG at hst
  rw [if_neg ht.2.1, if_neg (fun k => k ht.2.2)] at hst
  refine .step (here_ne h0 Nat.zero_lt_one) hst (by omega) ?_
  rw [addL_vd]
  have el : p + (60 :: (tag.cps.toList ++ (as.flatMap At1.tx ++ [62]))).length = p + (tag.cps.toList.length + (as.flatMap At1.tx).length + 2) := by
    simp only [List.length_cons, List.length_append, List.length_nil]
    omega
  rw [el]
  exact .refl
/-- the whole text -/
def rootT (ts : List Tr) : Tr := .el "html" [] ts
theorem open_root {d : Nat} (h : d ≤ 58) : OpenOk d rootM := ⟨by decide, fun a ha => by rw [List.mem_singleton.mp ha]; exact Nat.zero_lt_one, fun a ha => by rw [List.mem_singleton.mp ha]; decide, by show 1 + d ≤ 59; omega⟩
theorem add_root (ts : List Tr) : addL rootM 0 ts = ⟨flat 0 none (rootT ts), [0]⟩ := rfl
theorem Draws.parse {d : Nat} {x : Cs} {ts : List Tr} (h : Draws d x ts) (hd : d ≤ 58) : parseF (mkS x) = some ⟨flat 0 none (rootT ts), [0]⟩ := by
  have r := h (mkS x) 0 rootM [] (by rw [List.append_nil]; rfl) (Nat.zero_le _) (.inl rfl) (open_root hd)
  rw [Nat.zero_add] at r
  rw [← add_root]
  exact parse_of r
end Mk

/-! trees: the nodes in their order, with those above them -/
namespace Mk
open PySem PySem.Spec PyProof.Rows L2 Pr Dn
abbrev Ab := List (Nat × Tr)
abbrev En := Nat × Tr × Ab
mutual
def pre (i : Nat) (ab : Ab) : Tr → List En
  | .tx z => [(i, .tx z, ab)]
  | .el tag fd c => (i, .el tag fd c, ab) :: preL (i + 1) (ab ++ [(i, .el tag fd c)]) c
def preL (i : Nat) (ab : Ab) : List Tr → List En
  | [] => []
  | t :: r => pre i ab t ++ preL (i + size t) ab r
end
def parN (ab : Ab) : Option Nat := ab.getLast?.map (·.1)
def kidsAt (i : Nat) : List Tr → Ab
  | [] => []
  | t :: r => (i, t) :: kidsAt (i + size t) r
theorem kidsAt_fst : ∀ (c : List Tr) (i : Nat), (kidsAt i c).map (·.1) = nums i c
  | [], _ => rfl
  | t :: r, i => congrArg (i :: ·) (kidsAt_fst r _)
mutual
theorem pre_fst : ∀ (t : Tr) (i : Nat) (ab : Ab), (pre i ab t).map (·.1) = List.range' i (size t)
  | .tx z, i, ab => rfl
  | .el tag fd c, i, ab => by
    show i :: (preL (i + 1) _ c).map (·.1) = List.range' i (1 + sizeL c)
    rw [preL_fst c, Nat.add_comm 1, List.range'_succ]
theorem preL_fst : ∀ (ts : List Tr) (i : Nat) (ab : Ab), (preL i ab ts).map (·.1) = List.range' i (sizeL ts)
  | [], i, ab => rfl
  | t :: r, i, ab => by
    show (pre i ab t ++ preL (i + size t) ab r).map (·.1) = List.range' i (size t + sizeL r)
    rw [List.map_append, pre_fst t, preL_fst r, ← List.range'_append_1]
end
theorem pre_head (t : Tr) (i : Nat) (ab : Ab) : (i, t, ab) ∈ pre i ab t := by
  cases t with
  | tx z => exact List.mem_singleton.mpr rfl
  | el a b c => exact List.mem_cons_self
theorem preL_kid : ∀ {c : List Tr} {i j : Nat} {ab : Ab} {u : Tr}, (j, u) ∈ kidsAt i c → (j, u, ab) ∈ preL i ab c
  | t :: r, i, j, ab, u, h => by
    rcases List.mem_cons.mp h with e | h
    · cases e
      exact List.mem_append_left _ (pre_head _ _ _)
    · exact List.mem_append_right _ (preL_kid h)
mutual
theorem pre_sub : ∀ {T : Tr} {i : Nat} {ab : Ab} {j : Nat} {u : Tr} {ab' : Ab}, (j, u, ab') ∈ pre i ab T → ∀ x ∈ pre j ab' u, x ∈ pre i ab T
  | .tx z, i, ab, j, u, ab', h, x, hx => by
    cases List.mem_singleton.mp h
    exact hx
  | .el tag fd c, i, ab, j, u, ab', h, x, hx => by
    rcases List.mem_cons.mp h with e | h
    · cases e
      exact hx
    · exact List.mem_cons_of_mem _ (preL_sub h x hx)
theorem preL_sub : ∀ {ts : List Tr} {i : Nat} {ab : Ab} {j : Nat} {u : Tr} {ab' : Ab}, (j, u, ab') ∈ preL i ab ts → ∀ x ∈ pre j ab' u, x ∈ preL i ab ts
  | t :: r, i, ab, j, u, ab', h, x, hx => by
    rcases List.mem_append.mp h with h | h
    · exact List.mem_append_left _ (pre_sub h x hx)
    · exact List.mem_append_right _ (preL_sub h x hx)
end
/-- the children of one that stands there stand there -/
theorem pre_kids {T : Tr} {i j k : Nat} {ab ab' : Ab} {tag : Str} {fd : List (Str × Str)} {c : List Tr} {u : Tr} (h : (j, .el tag fd c, ab') ∈ pre i ab T) (hk : (k, u) ∈ kidsAt (j + 1) c) : (k, u, ab' ++ [(j, .el tag fd c)]) ∈ pre i ab T :=
  pre_sub h _ (List.mem_cons_of_mem _ (preL_kid hk))
mutual
theorem pre_blk : ∀ {T : Tr} {i : Nat} {ab : Ab} {j : Nat} {u : Tr} {ab' : Ab}, (j, u, ab') ∈ pre i ab T → ∃ l r, flat i (parN ab) T = l ++ (flat j (parN ab') u ++ r) ∧ i + l.length = j
  | .tx z, i, ab, j, u, ab', h => by
    cases List.mem_singleton.mp h
    exact ⟨[], [], (List.append_nil _).symm, rfl⟩
  | .el tag fd c, i, ab, j, u, ab', h => by
    rcases List.mem_cons.mp h with e | h
    · cases e
      exact ⟨[], [], (List.append_nil _).symm, rfl⟩
    · obtain ⟨l, r, e, hl⟩ := preL_blk h
      have ep : parN (ab ++ [(i, Tr.el tag fd c)]) = some i := by unfold parN; rw [List.getLast?_append]; rfl
      rw [ep] at e
      refine ⟨{ elemN tag fd with par := parN ab, kids := nums (i + 1) c } :: l, r, ?_, by rw [List.length_cons]; omega⟩
      show _ :: flatL (i + 1) (some i) c = _
      rw [e]
      rfl
theorem preL_blk : ∀ {ts : List Tr} {i : Nat} {ab : Ab} {j : Nat} {u : Tr} {ab' : Ab}, (j, u, ab') ∈ preL i ab ts → ∃ l r, flatL i (parN ab) ts = l ++ (flat j (parN ab') u ++ r) ∧ i + l.length = j
  | t :: ts, i, ab, j, u, ab', h => by
    show ∃ l r, flat i (parN ab) t ++ flatL (i + size t) (parN ab) ts = _ ∧ _
    rcases List.mem_append.mp h with h | h
    · obtain ⟨l, r, e, hl⟩ := pre_blk h
      exact ⟨l, r ++ flatL (i + size t) (parN ab) ts, by rw [e]; simp only [List.append_assoc], hl⟩
    · obtain ⟨l, r, e, hl⟩ := preL_blk h
      refine ⟨flat i (parN ab) t ++ l, r, by rw [e]; simp only [List.append_assoc], ?_⟩
      rw [List.length_append, flat_len]
      omega
end
def headN (j : Nat) (par : Option Nat) : Tr → PN
  | .tx z => { textN z with par := par }
  | .el tag fd c => { elemN tag fd with par := par, kids := nums (j + 1) c }
theorem flat_head (j : Nat) (par : Option Nat) (u : Tr) : ∃ r, flat j par u = headN j par u :: r := by
  cases u with
  | tx z => exact ⟨[], rfl⟩
  | el a b c => exact ⟨_, rfl⟩
theorem pre_flat {T : Tr} {j : Nat} {u : Tr} {ab : Ab} (h : (j, u, ab) ∈ pre 0 [] T) : (flat 0 none T)[j]? = some (headN j (parN ab) u) := by
  obtain ⟨l, r, e, hl⟩ := pre_blk h
  obtain ⟨r', e'⟩ := flat_head j (parN ab) u
  have e : flat 0 none T = l ++ (flat j (parN ab) u ++ r) := e
  rw [e, List.getElem?_append_right (by omega), show j - l.length = 0 by omega, e']
  rfl
/-- those above one stand there -/
def AncOk (L : List En) (ab0 ab : Ab) : Prop := ∃ b, ab = ab0 ++ b ∧ ∀ b1 a b2, b = b1 ++ a :: b2 → (a.1, a.2, ab0 ++ b1) ∈ L ∧ ∃ tag fd c, a.2 = .el tag fd c
mutual
theorem pre_anc : ∀ {T : Tr} {i : Nat} {ab : Ab} {j : Nat} {u : Tr} {ab' : Ab}, (j, u, ab') ∈ pre i ab T → AncOk (pre i ab T) ab ab'
  | .tx z, i, ab, j, u, ab', h => by
    cases List.mem_singleton.mp h
    exact ⟨[], (List.append_nil _).symm, fun b1 a b2 e => by cases b1 <;> cases e⟩
  | .el tag fd c, i, ab, j, u, ab', h => by
    rcases List.mem_cons.mp h with e | h
    · cases e
      exact ⟨[], (List.append_nil _).symm, fun b1 a b2 e => by cases b1 <;> cases e⟩
    · obtain ⟨b, e, hb⟩ := preL_anc h
      refine ⟨(i, .el tag fd c) :: b, by rw [e, List.append_assoc]; rfl, fun b1 a b2 e2 => ?_⟩
      cases b1 with
      | nil =>
        injection e2 with e2 _
        subst e2
        exact ⟨by rw [List.append_nil]; exact List.mem_cons_self, _, _, _, rfl⟩
      | cons x b1 =>
        injection e2 with e2 e3
        subst e2
        obtain ⟨h1, h2⟩ := hb b1 a b2 e3
        exact ⟨List.mem_cons_of_mem _ (by rw [List.append_assoc] at h1; exact h1), h2⟩
theorem preL_anc : ∀ {ts : List Tr} {i : Nat} {ab : Ab} {j : Nat} {u : Tr} {ab' : Ab}, (j, u, ab') ∈ preL i ab ts → AncOk (preL i ab ts) ab ab'
  | t :: ts, i, ab, j, u, ab', h => by
    rcases List.mem_append.mp h with h | h
    · obtain ⟨b, e, hb⟩ := pre_anc h
      exact ⟨b, e, fun b1 a b2 e2 => ⟨List.mem_append_left _ (hb b1 a b2 e2).1, (hb b1 a b2 e2).2⟩⟩
    · obtain ⟨b, e, hb⟩ := preL_anc h
      exact ⟨b, e, fun b1 a b2 e2 => ⟨List.mem_append_right _ (hb b1 a b2 e2).1, (hb b1 a b2 e2).2⟩⟩
end
theorem pre_up {T : Tr} {j : Nat} {u : Tr} {ab : Ab} {a : Nat × Tr} (h : (j, u, ab ++ [a]) ∈ pre 0 [] T) : (a.1, a.2, ab) ∈ pre 0 [] T ∧ ∃ tag fd c, a.2 = .el tag fd c := by
  obtain ⟨b, e, hb⟩ := pre_anc h
  have e : ab ++ [a] = b := e
  exact hb ab a [] e.symm
theorem pre_lt {T : Tr} {j : Nat} {u : Tr} {ab : Ab} (h : (j, u, ab) ∈ pre 0 [] T) : j < size T := by
  have : j ∈ (pre 0 [] T).map (·.1) := List.mem_map.mpr ⟨_, h, rfl⟩
  rw [pre_fst] at this
  rw [List.mem_range'_1] at this
  omega
theorem pre_len {T : Tr} {i : Nat} {ab : Ab} : (pre i ab T).length = size T := by
  have := congrArg List.length (pre_fst T i ab)
  rwa [List.length_map, List.length_range'] at this
theorem pre_size {T : Tr} {j : Nat} {u : Tr} {ab : Ab} (h : (j, u, ab) ∈ pre 0 [] T) : j + size u ≤ size T := by
  obtain ⟨l, r, e, hl⟩ := pre_blk h
  have := congrArg List.length e
  rw [flat_len, List.length_append, List.length_append, flat_len] at this
  omega
mutual
theorem pre_ab : ∀ {T : Tr} {i : Nat} {ab : Ab} {j : Nat} {u : Tr} {ab' : Ab}, (j, u, ab') ∈ pre i ab T → ab'.length + i ≤ ab.length + j
  | .tx z, i, ab, j, u, ab', h => by
    cases List.mem_singleton.mp h
    exact Nat.le_refl _
  | .el tag fd c, i, ab, j, u, ab', h => by
    rcases List.mem_cons.mp h with e | h
    · cases e
      exact Nat.le_refl _
    · have := preL_ab h
      rw [List.length_append, List.length_singleton] at this
      omega
theorem preL_ab : ∀ {ts : List Tr} {i : Nat} {ab : Ab} {j : Nat} {u : Tr} {ab' : Ab}, (j, u, ab') ∈ preL i ab ts → ab'.length + i ≤ ab.length + j
  | t :: ts, i, ab, j, u, ab', h => by
    rcases List.mem_append.mp h with h | h
    · exact pre_ab h
    · have := preL_ab h
      omega
end
theorem kids_flat : ∀ (c : List Tr) (i : Nat), (kidsAt i c).flatMap (fun x => List.range' x.1 (size x.2)) = List.range' i (sizeL c)
  | [], i => rfl
  | t :: r, i => by
    show List.range' i (size t) ++ (kidsAt (i + size t) r).flatMap _ = List.range' i (size t + sizeL r)
    rw [kids_flat r, ← List.range'_append_1]
theorem kids_sum : ∀ (c : List Tr) (i : Nat), ((kidsAt i c).map fun x => size x.2).sum = sizeL c
  | [], i => rfl
  | t :: r, i => by
    show (size t :: (kidsAt (i + size t) r).map _).sum = size t + sizeL r
    rw [List.sum_cons, kids_sum r]
theorem kidsAt_snd : ∀ (c : List Tr) (i : Nat), (kidsAt i c).map (·.2) = c
  | [], _ => rfl
  | t :: r, i => congrArg (t :: ·) (kidsAt_snd r _)
theorem nums_len : ∀ (c : List Tr) (i : Nat), (nums i c).length ≤ sizeL c
  | [], i => Nat.le_refl _
  | y :: c, i => by
    have := nums_len c (i + size y)
    have := size_pos y
    show (nums (i + size y) c).length + 1 ≤ size y + sizeL c
    omega
/-- the children of a node -/
def kids : Tr → List Tr
  | .tx _ => []
  | .el _ _ c => c
theorem size_kids (u : Tr) : size u = 1 + sizeL (kids u) := by cases u <;> rfl
theorem headN_kids (j : Nat) (p : Option Nat) (u : Tr) : (headN j p u).kids = nums (j + 1) (kids u) := by cases u <;> rfl
theorem pre_kid {T : Tr} {j k : Nat} {ab : Ab} {u v : Tr} (h : (j, u, ab) ∈ pre 0 [] T) (hk : (k, v) ∈ kidsAt (j + 1) (kids u)) : ∃ ab', (k, v, ab') ∈ pre 0 [] T := by
  cases u with
  | tx z => cases hk
  | el a b c => exact ⟨_, pre_kids h hk⟩
mutual
def depth : Tr → Nat
  | .tx _ => 0
  | .el _ _ c => 1 + depthL c
def depthL : List Tr → Nat
  | [] => 0
  | t :: r => max (depth t) (depthL r)
end
theorem depth_kid : ∀ {c : List Tr} {t : Tr}, t ∈ c → depth t ≤ depthL c
  | u :: r, t, h => by
    show depth t ≤ max (depth u) (depthL r)
    rcases List.mem_cons.mp h with rfl | h
    · exact Nat.le_max_left _ _
    · exact Nat.le_trans (depth_kid h) (Nat.le_max_right _ _)
mutual
theorem depth_sub : ∀ {T : Tr} {i : Nat} {ab : Ab} {j : Nat} {u : Tr} {ab' : Ab}, (j, u, ab') ∈ pre i ab T → depth u ≤ depth T
  | .tx z, i, ab, j, u, ab', h => by
    cases List.mem_singleton.mp h
    exact Nat.le_refl _
  | .el tag fd c, i, ab, j, u, ab', h => by
    rcases List.mem_cons.mp h with e | h
    · cases e
      exact Nat.le_refl _
    · have := depthL_sub h
      show depth u ≤ 1 + depthL c
      omega
theorem depthL_sub : ∀ {ts : List Tr} {i : Nat} {ab : Ab} {j : Nat} {u : Tr} {ab' : Ab}, (j, u, ab') ∈ preL i ab ts → depth u ≤ depthL ts
  | t :: r, i, ab, j, u, ab', h => by
    show depth u ≤ max (depth t) (depthL r)
    rcases List.mem_append.mp h with h | h
    · exact Nat.le_trans (depth_sub h) (Nat.le_max_left _ _)
    · exact Nat.le_trans (depthL_sub h) (Nat.le_max_right _ _)
end
/-- the elements -/
def isEl : Tr → Bool
  | .tx _ => false
  | .el _ _ _ => true
mutual
def texts : Tr → List Str
  | .tx z => [z]
  | .el _ _ c => textsL c
def textsL : List Tr → List Str
  | [] => []
  | t :: r => texts t ++ textsL r
end
def txOf : Tr → Option Str
  | .tx z => some z
  | .el _ _ _ => none
mutual
theorem pre_texts : ∀ (t : Tr) (i : Nat) (ab : Ab), (pre i ab t).filterMap (fun x => txOf x.2.1) = texts t
  | .tx z, i, ab => rfl
  | .el tag fd c, i, ab => by
    show ((i, Tr.el tag fd c, ab) :: preL _ _ c).filterMap _ = textsL c
    rw [List.filterMap_cons]
    exact preL_texts c _ _
theorem preL_texts : ∀ (ts : List Tr) (i : Nat) (ab : Ab), (preL i ab ts).filterMap (fun x => txOf x.2.1) = textsL ts
  | [], i, ab => rfl
  | t :: r, i, ab => by
    show (pre i ab t ++ preL (i + size t) ab r).filterMap _ = texts t ++ textsL r
    rw [List.filterMap_append, pre_texts t, preL_texts r]
end
mutual
theorem pre_tsub : ∀ {T : Tr} {i : Nat} {ab : Ab} {j : Nat} {u : Tr} {ab' : Ab}, (j, u, ab') ∈ pre i ab T → ∀ z ∈ texts u, z ∈ texts T
  | .tx z, i, ab, j, u, ab', h, x, hx => by
    cases List.mem_singleton.mp h
    exact hx
  | .el tag fd c, i, ab, j, u, ab', h, x, hx => by
    rcases List.mem_cons.mp h with e | h
    · cases e
      exact hx
    · exact preL_tsub h x hx
theorem preL_tsub : ∀ {ts : List Tr} {i : Nat} {ab : Ab} {j : Nat} {u : Tr} {ab' : Ab}, (j, u, ab') ∈ preL i ab ts → ∀ z ∈ texts u, z ∈ textsL ts
  | t :: r, i, ab, j, u, ab', h, x, hx => by
    rcases List.mem_append.mp h with h | h
    · exact List.mem_append_left _ (pre_tsub h x hx)
    · exact List.mem_append_right _ (preL_tsub h x hx)
end
mutual
theorem texts_len : ∀ (t : Tr), (texts t).length ≤ size t
  | .tx z => Nat.le_refl 1
  | .el tag fd c => by
    show (textsL c).length ≤ 1 + sizeL c
    have := textsL_len c
    omega
theorem textsL_len : ∀ (ts : List Tr), (textsL ts).length ≤ sizeL ts
  | [] => Nat.le_refl 0
  | t :: r => by
    show (texts t ++ textsL r).length ≤ size t + sizeL r
    rw [List.length_append]
    have := texts_len t
    have := textsL_len r
    omega
end
def content (u : Tr) : Str := Txt.join "" (texts u)
def idIs (name : Str) (u : Tr) : Bool := match u with
  | .tx _ => false
  | .el _ fd _ => decide (aGet fd "id" = some name)
def byId (T : Tr) (name : Str) : Option En := (pre 0 [] T).find? fun x => idIs name x.2.1
mutual
def shD : Tr → Dt
  | .tx z => .str z
  | .el tag fd c => .tup [.str tag, .ptp ((srtSS fd).map ssD), .tup (shDL c)]
def shDL : List Tr → List Dt
  | [] => []
  | t :: r => shD t :: shDL r
end
theorem shDL_map : ∀ (c : List Tr), shDL c = c.map shD
  | [] => rfl
  | t :: r => congrArg (shD t :: ·) (shDL_map r)
end Mk

open PySem PySem.Spec PyProof.Rows L2 Pr Dn

/-! steps over deep values -/
local macro_rules | `(tactic| walk_at "w") => `(tactic| with_reducible conv => whnf)
local macro_rules | `(tactic| walk_at "ne") => `(tactic| first
  | with_reducible assumption
  | exact Ne.symm (by with_reducible assumption)
  | exact ne_free (by with_reducible assumption) (by with_reducible assumption)
  | exact Ne.symm (ne_free (by with_reducible assumption) (by with_reducible assumption))
  | exact ne_cell (by with_reducible assumption) (by with_reducible assumption) (fun z => Cell.noConfusion z))
local macro_rules | `(tactic| walk_at "st") => `(tactic| first
  | with_reducible assumption
  | ((with_reducible refine Eq.trans sput_same ?_); rfl)
  | ((with_reducible refine Eq.trans (sput_ne ?_) ?_); (focus (walk_at "ne")); (walk_at "st"))
  | ((with_reducible refine Eq.trans (sdel_ne ?_) ?_); (focus (walk_at "ne")); (walk_at "st")))
local macro_rules | `(tactic| walk_at "su") => `(tactic| ((try dsimp only); walk_at "st"))
local macro_rules | `(tactic| walk_at "ar") => `(tactic| first | with_reducible assumption | omega | exact And.intro (by omega) (by omega) | exact ⟨by omega, by omega, by omega⟩ | exact Or.inr ⟨by omega, by omega⟩ | exact Or.inl ⟨by omega, by omega⟩ | decide)
local macro_rules | `(tactic| walk_at "sz") => `(tactic| first | with_reducible assumption | (refine szD ?_; first | (simp only [List.length_map, List.length_append, List.length_cons, List.length_nil, Dn.encD_len]; omega) | (simp; done)))
local macro_rules | `(tactic| walk_at "len") => `(tactic| omega)
local macro_rules | `(tactic| walk_at "q") => `(tactic| first
  | ((with_reducible show ∃ c, sput _ _ _ _ = some c ∧ _); refine ⟨_, by walk_at "st", ?_⟩)
  | ((with_reducible show ∃ c, (_ : Store) _ = some c ∧ _); refine ⟨_, by walk_at "st", ?_⟩)
  | ((with_reducible show ∃ l, _ = some (Cell.ins _ _ l) ∧ _); refine ⟨_, by walk_at "st", ?_⟩)
  | ((with_reducible show ∃ l, _ = some (Cell.lst l) ∧ _); refine ⟨_, by walk_at "st", ?_⟩)
  | ((with_reducible show ∃ l, _ = some (Cell.dct l) ∧ _); refine ⟨_, by walk_at "st", ?_⟩)
  | ((with_reducible show ∃ l, _ = some (Cell.dic l) ∧ _); refine ⟨_, by walk_at "st", ?_⟩)
  | ((with_reducible show ∃ l, (_ = some (Cell.dic l) ∨ _) ∧ _); refine ⟨_, Or.inl (by walk_at "st"), ?_⟩)
  | ((with_reducible show ∃ l, (_ = some (Cell.dic l) ∨ _) ∧ _); refine ⟨_, Or.inr ⟨_, by walk_at "st"⟩, ?_⟩)
  | ((with_reducible show ∃ u l, _ = some (Cell.lck u l) ∧ _); refine ⟨_, _, by walk_at "st", ?_⟩)
  | ((with_reducible show ∃ k, Dt.bl _ = Dt.bl k ∧ _); refine ⟨_, rfl, ?_⟩)
  | with_reducible refine eq_strS ?_ | with_reducible refine ne_strS ?_ | with_reducible refine eq_blS ?_ | with_reducible refine ne_blS ?_ | with_reducible refine eq_nonS ?_ | with_reducible refine ne_nonS ?_ | with_reducible refine eq_blStr ?_ | with_reducible refine ne_blStr ?_
  | with_reducible refine eq_int ?_ | with_reducible refine eq_str ?_ | with_reducible refine eq_bl ?_ | with_reducible refine ne_int ?_ | with_reducible refine ne_str ?_ | with_reducible refine ne_bl ?_
  | ((with_reducible show ∃ j, ixN _ _ = some j ∧ _); refine ⟨_, rfl, ?_⟩)
  | ((with_reducible show dAtN (List.set _ _ _) _ _); dsimp only [List.set, Int.reduceToNat])
  | with_reducible refine ift_nt ?_ | with_reducible refine ift_nf ?_
  | ((with_reducible show dLc _ _ _ _ _ _ _ _); rw [dLc_eq])
  | ((with_reducible show dFor _ _ _ _ _ _); rw [dFor_eq])
  | ((with_reducible show (_ < sizeLine) ∧ _); refine And.intro ?_ ?_; (focus (walk_at "sz")))
  | ((with_reducible show (_ ≤ sizeLine) ∧ _); refine And.intro ?_ ?_; (focus (first | with_reducible assumption | (refine szX ?_; walk_at "len") | (refine szl ?_; first | (simp only [List.length_map, List.length_append, List.length_cons, List.length_nil, Dn.encD_len]; omega) | (simp; done)))))
  | with_reducible refine in_str ?_ | with_reducible refine nin_str ?_
  | ((with_reducible show ∃ I : Nat → List Dt → Store → Prop, _); refine lc_go ?_)
  | ((with_reducible show ∃ I : Nat → DS → Store → Prop, _); refine for_go ?_)
  | ((with_reducible show ∃ b, kitB _ _ = some b ∧ _); refine ⟨_, rfl, ?_⟩)
  | ((with_reducible show dAtN (List.set _ _ _) _ _); dsimp only [List.set, Int.reduceToNat])
  | ((with_reducible show dLc _ _ _ _ _ _ _ _); rw [dLc_eq])
  | ((with_reducible show dFor _ _ _ _ _ _); rw [dFor_eq])
  | ((with_reducible show (_ < sizeLine) ∧ _); refine ⟨by walk_at "sz", lc_go ?_⟩)
  | ((with_reducible show ∃ I : Nat → DS → Store → Prop, (_ ∧ (∀ i δ S, i ≤ _ → _ → _) ∧ (∀ i d δ S, _ → _ → _) ∧ (∀ δ S, _ → _))); refine for_go ?_)
  | ((with_reducible refine iftN_f ?_ ?_); (focus decide)) | ((with_reducible refine iftN_t ?_ ?_); (focus decide))
  | ((with_reducible show _ ∧ _); refine ⟨by first | exact trivial | with_reducible exact rfl | exact ⟨rfl, rfl⟩ | walk_at "st" | walk_at "ar", ?_⟩))
local macro_rules | `(tactic| walk_at "go") => `(tactic| ((walk_at "w"); repeat ((walk_at "q"); (walk_at "w"))))
local macro_rules | `(tactic| walk_at "a") => `(tactic| first
  | with_reducible refine g_seq ?_)
open K19
open PySem PySem.Spec PyProof.Rows L2 Pr Dn

namespace K19
open Mk
section
variable {P : Program} {w : World} {K : PySem.W.Frag} {mg : Str → Option Value} {base : Heap}
theorem ok_roll (T : Tx K mg) {f : Addr} {fd : FuncData} (F : FunD K "_law_roll" "_law_roll" (defArgs s_law_roll) (defBody s_law_roll) (defScope s_law_roll) [] [] f fd) : FnOk P w K mg base (L2.CX P w) 1 f fd ["dice", "many"] (spD K cRoll) := by
  refine dfn 3 F sc_law_roll (fun ds S q e h => ?_) rfl (fun cdv A outer s H E e hr => ⟨_, (dss_cons (ds_if (PW.pt (dt_or (dt_cmp (od_eq rfl (hU_of hr)) (de_ixC (n := 2) rfl (dv (pv 0))) de_int) (pw_or1 (PW.pt (dt_and (dt_cmp (od_eq rfl (hU_of hr)) (de_ixC (n := 2) rfl (dv (pv 0))) de_int) (pw_and1 (dt_cmp od_gt (de_ixC (n := 0) rfl (dv (pv 0))) de_int))))))) (dss_cons (ds_set (i := 2) sc_law_roll.nd rfl (Or.inl rfl) (de_op od_mod (de_callTy cd_int (by rfl) T.b_int (by decide +kernel) (da_cons (de_ixC (n := 0) rfl (dv (pv 0))) da_nil)) (dv (pv 1))))
  (dss_cons (ds_asg (de_op od_fdiv (de_ixC (n := 0) rfl (dv (pv 0))) (dv (pv 1))) (dg_subL (dv (pv 0)) de_int))
  (dss_one (ds_ret (dv (pv 2)))))) dss_nil)
  (dss_cons (ds_asg de_int (dg_subL (dv (pv 0)) de_int))
  (dss_cons (ds_if (dt_cmp od_gt (dv (pv 1)) de_int) (dss_one ds_never) dss_nil)
  (dss_cons (ds_asg (de_op od_mod (de_callTy cd_int (by rfl) T.b_int (by decide +kernel) (da_cons (de_op (od_add rfl) (de_op (od_add rfl) (de_op od_mul (de_ixC (n := 0) rfl (dv (pv 0))) de_int) (de_op od_mul (de_ixC (n := 1) rfl (dv (pv 0))) de_int)) de_int) da_nil)) de_int) (dg_subL (dv (pv 0)) de_int))
  (dss_cons (ds_asg (de_op (od_add rfl) (de_ixC (n := 1) rfl (dv (pv 0))) de_int) (dg_subL (dv (pv 0)) de_int))
  (dss_one (ds_ret (de_op od_mod (de_callTy cd_int (by rfl) T.b_int (by decide +kernel) (da_cons (de_op od_fdiv (de_ixC (n := 0) rfl (dv (pv 0))) de_int) da_nil)) (dv (pv 1)))))))))), fun ds S q h => ?_⟩)
  · obtain ⟨d, x, n, k, m, rfl, _⟩ := h
    rfl
  · obtain ⟨d, x, n, k, m, rfl, hd, hm, kk⟩ := h
    have fin : ∀ (y : Int) (x' n' k' : Int), q (.int (y % m)) (sput S d (.lst [.int x', .int n', .int k'])) := fun y x' n' k' => kk _ _ _ _ (Int.emod_nonneg _ (by omega)) (Int.emod_lt_of_pos _ hm.1)
    walk_at "go"
    refine ift (fun h => ?_) (fun h => ?_)
    · walk_at "go"
      exact fin _ _ _ _
    · walk_at "go"
      refine ift (fun h => ?_) (fun h => ?_)
      · walk_at "go"
        refine ift (fun h => ?_) (fun h => ?_)
        · walk_at "go"
          exact fin _ _ _ _
        · walk_at "go"
          refine ift_pf (by omega) ?_
          walk_at "go"
          simp only [sput_sput]
          exact fin _ _ _ _
      · walk_at "go"
        refine ift_pf (by omega) ?_
        walk_at "go"
        simp only [sput_sput]
        exact fin _ _ _ _
theorem ok_dice (T : Tx K mg) {f : Addr} {fd : FuncData} (F : FunD K "_law_dice" "_law_dice" (defArgs s_law_dice) (defBody s_law_dice) (defScope s_law_dice) [] [] f fd) : FnOk P w K mg base (L2.CX P w) 1 f fd ["cell"] (spD K cDice) := by
  refine dfn 1 F sc_law_dice (fun ds S q e h => ?_) rfl (fun cdv A outer s H E e hr => ⟨_, (dss_cons (ds_if (dt_chain od_lt od_lt (de_op od_sub de_int de_int) (dv (pv 0)) de_int) (dss_one (ds_ret (de_lstO (da_cons (de_callB cd_abs (by rfl) T.b_abs (by decide +kernel) (da_cons (dv (pv 0)) da_nil)) (da_cons de_int (da_cons de_int da_nil)))))) dss_nil)
  (dss_one (ds_ret (de_lstO (da_cons (dv (pv 0)) (da_cons (de_op (od_add rfl) de_int (de_op od_mod (de_callTy cd_int (by rfl) T.b_int (by decide +kernel) (da_cons (dv (pv 0)) da_nil)) de_int)) (da_cons (de_callTy cd_int (by rfl) T.b_int (by decide +kernel) (da_cons (de_cmp od_ge (dv (pv 0)) (de_op od_pow de_int de_int)) da_nil)) da_nil))))))), fun ds S q h => ?_⟩)
  · obtain ⟨c, rfl, _⟩ := h
    rfl
  · obtain ⟨c, rfl, kk⟩ := h
    walk_at "go"
    refine ift (fun h1 => ?_) (fun h1 => ?_)
    · walk_at "go"
      refine ift (fun h2 => ?_) (fun h2 => ?_)
      · walk_at "go"
        exact fun p hp => kk p _ _ _ hp
      · walk_at "go"
        exact fun p hp => kk p _ _ _ hp
    · walk_at "go"
      exact fun p hp => kk p _ _ _ hp
theorem ok_rounds (T : Tx K mg) (c__law_dice : CalX P w K mg base 1 "_law_dice" (spD K cDice) []) {f : Addr} {fd : FuncData} (F : FunD K "_law_rounds" "_law_rounds" (defArgs s_law_rounds) (defBody s_law_rounds) (defScope s_law_rounds) [] [] f fd) : FnOk P w K mg base (L2.CX P w) 2 f fd ["script", "most"] (spD K cRounds) := by
  refine dfn 4 F sc_law_rounds (fun ds S q e h => ?_) rfl (fun cdv A outer s H E e hr => ⟨_, (dss_cons (ds_set (i := 2) sc_law_rounds.nd rfl (Or.inl rfl) (de_sl rfl (dv (pv 0)) do_none (do_some (dv (pv 1)))))
  (dss_cons (ds_if (dt_cmp (od_eqV rfl (hU_of hr)) (dv (pv 2)) (de_lst da_nil)) (dss_one (ds_set (i := 2) sc_law_rounds.nd rfl (Or.inl rfl) (de_lst (da_cons de_int da_nil)))) dss_nil)
  (dss_one (ds_ret (de_lc (own := [("cell", 3)]) rfl sc_law_rounds.nd (di_lst rfl (dv (pv 2))) (blkOk_by (own := [("cell", 3)]) (N := sl_law_rounds) (sc := defScope s_law_rounds) (by decide +kernel)) (fun _ _ _ _ _ => (gw_name (i := 3) sc_law_rounds.nd rfl (Or.inl rfl) (by decide))) (fun _ _ _ _ _ => ts_nil) (fun _ _ _ _ _ => (de_call rfl c__law_dice dfl_nil hr (by decide) rfl passL (da_cons (dv (pv 3)) da_nil)))))))), fun ds S q h => ?_⟩)
  · obtain ⟨ns, rfl, _⟩ := h
    rfl
  · obtain ⟨ns, rfl, nl, kk⟩ := h
    walk_at "go"
    have e1 : ∃ ms : List Int, Dn.cutD (ns.map Dt.int) none (some 1) = ms.map Dt.int ∧ ms.length ≤ 1 := by
      refine ⟨ns.take 1, ?_, by simp; omega⟩
      unfold Dn.cutD
      simp only [HT.sIx, List.length_map, List.map_take]
      cases ns with
      | nil => rfl
      | cons n r => simp
    obtain ⟨ms, e1, ml⟩ := e1
    rw [e1]
    refine ((tells_enc (α := Int)).lst).eq (a := ms) (b := []) (by decide) ?_
    walk_at "go"
    have fin : ∀ i : Int, dLc (dItLs (dVar 2)) (dName 3) [3] dYes (dCall cDice [] noX (dCons (dVar 3) dNil)) (fun l S' => q (.lst l) S') [some (.scr ns), some (.int 1), some (.lst [.int i]), none] S := fun i => by
      walk_at "go"
      refine ⟨i, rfl, fun p x n k np => ?_⟩
      walk_at "go"
      exact kk p x n k np
    refine ift (fun h => ?_) (fun h => ?_)
    · subst h
      walk_at "w"
      exact fin _
    · walk_at "w"
      obtain ⟨i, rfl⟩ : ∃ i, ms = [i] := by
        cases ms with
        | nil => exact absurd rfl h
        | cons i r =>
          cases r with
          | nil => exact ⟨i, rfl⟩
          | cons _ _ => simp at ml
      exact fin _
end
end K19

open PySem PySem.Spec PyProof.Rows L2 Pr Dn

namespace K19
open Mk
@[reducible] def nodeC (K : PySem.W.Frag) (k : Int) (tag tx : Dt) (at_ ch : Addr) (par vl ck : Dt) : Cell := .ins (He.ga K "Node") nm_Node [.int k, tag, tx, .ref at_, .ref ch, par, vl, ck]
@[reducible] def docC (K : PySem.W.Frag) (nd : Addr) (n : Int) (r : List Dt) : Cell := .ins (He.ga K "Document") nm_Document (.ref nd :: .int n :: r)
def LeX (x : Addr) (S S' : Store) : Prop := ∀ a c, a ≠ x → S a = some c → S' a = some c
theorem LeX.refl {x : Addr} {S : Store} : LeX x S S := fun _ _ _ h => h
theorem LeX.own {x : Addr} {S S' : Store} {c : Cell} (h : LeX x S S') : LeX x S (sput S' x c) := fun a d n e => by rw [sput_ne n]; exact h a d n e
theorem LeX.put {x : Addr} {S S' : Store} {p : Addr} {c : Cell} (h : LeX x S S') (hp : S p = none) : LeX x S (sput S' p c) := fun a d n e => by
  by_cases z : a = p
  · rw [z, hp] at e; cases e
  · rw [sput_ne z]; exact h a d n e
theorem LeX.trans {x : Addr} {S T U : Store} (h : LeX x S T) (k : LeX x T U) : LeX x S U := fun a c n e => k a c n (h a c n e)
/-- the way up -/
inductive Up (K : PySem.W.Frag) (S : Store) : Addr → List Addr → Prop where
  | top {a : Addr} {k : Int} {tag tx vl ck : Dt} {at_ ch : Addr} (h : S a = some (nodeC K k tag tx at_ ch .non vl ck)) : Up K S a [a]
  | step {a b : Addr} {k : Int} {tag tx vl ck : Dt} {at_ ch : Addr} {l : List Addr} (h : S a = some (nodeC K k tag tx at_ ch (.ref b) vl ck)) (t : Up K S b l) : Up K S a (a :: l)
theorem Up.le {K : PySem.W.Frag} {S S' : Store} {a : Addr} {l : List Addr} (u : Up K S a l) (h : Hold l S S') : Up K S' a l := by
  induction u with
  | top e => exact .top (h _ List.mem_cons_self _ e)
  | step e t ih => exact .step (h _ List.mem_cons_self _ e) (ih fun b hb => h b (List.mem_cons_of_mem _ hb))
/-- what is next on the way up -/
def Nx (K : PySem.W.Frag) (S : Store) (d : Dt) (l : List Addr) : Prop := (d = .non ∧ l = []) ∨ ∃ b, d = .ref b ∧ Up K S b l
theorem Up.at {K : PySem.W.Frag} {S : Store} {a : Addr} {l : List Addr} (u : Up K S a l) : ∃ k tag tx at_ ch par vl ck r, S a = some (nodeC K k tag tx at_ ch par vl ck) ∧ l = a :: r ∧ Nx K S par r := by
  cases u with
  | top e => exact ⟨_, _, _, _, _, _, _, _, _, e, rfl, .inl ⟨rfl, rfl⟩⟩
  | step e t => exact ⟨_, _, _, _, _, _, _, _, _, e, rfl, .inr ⟨_, rfl, t⟩⟩
theorem Up.mem {K : PySem.W.Frag} {S : Store} {a : Addr} {l : List Addr} (u : Up K S a l) : ∀ b ∈ l, ∃ k tag tx at_ ch par vl ck, S b = some (nodeC K k tag tx at_ ch par vl ck) := by
  induction u with
  | top e => exact fun b hb => by rw [List.mem_singleton.mp hb]; exact ⟨_, _, _, _, _, _, _, _, e⟩
  | step e t ih =>
    intro b hb
    rcases List.mem_cons.mp hb with rfl | hb
    · exact ⟨_, _, _, _, _, _, _, _, e⟩
    · exact ih b hb
def cNode (K : PySem.W.Frag) : DSp := fun ds S q _ => ∃ m n tag tx, ds = [.ref m, .int n, tag, tx] ∧ S m = some (.ins (He.ga K "Node") nm_Node []) ∧ ∀ at_ ch S', S ch = none → ch ≠ m → S at_ = none → at_ ≠ m → at_ ≠ ch → S' at_ = some (.dic []) → S' m = some (nodeC K n tag tx at_ ch .non (.str "") (.bl false)) → S' ch = some (.lst []) → LeX m S S' → q .non S'
def cMake (K : PySem.W.Frag) : DSp := fun ds S q _ => ∃ dc nd n r L tag tx, ds = [.ref dc, tag, tx] ∧ S dc = some (docC K nd n r) ∧ S nd = some (.dic L) ∧ L.length ≤ 1000000 ∧
  ∀ m at_ ch S', S m = none → S ch = none → ch ≠ m → S at_ = none → at_ ≠ m → at_ ≠ ch → S' at_ = some (.dic []) → S' m = some (nodeC K n tag tx at_ ch .non (.str "") (.bl false)) → S' ch = some (.lst []) → S' dc = some (docC K nd (n + 1) r) → S' nd = some (.dic (kPut L (Sum.inl n) (.ref m))) → (∀ a c, a ≠ dc → a ≠ nd → S a = some c → S' a = some c) → q (.ref m) S'
def cDoc (K : PySem.W.Frag) : DSp := fun ds S q _ => ∃ dc, ds = [.ref dc] ∧ S dc = some (.ins (He.ga K "Document") nm_Document []) ∧
  ∀ nd m at_ ch L S', S nd = none → S m = none → S ch = none → S at_ = none → nd ≠ at_ → S' at_ = some (.dic []) → S' dc = some (docC K nd 1 [.ref m, .int 0]) → S' nd = some (.dic L) → L = [((Sum.inl 0 : Key), Dt.ref m)] → S' m = some (nodeC K 0 (.str "html") (.str "") at_ ch .non (.str "") (.bl false)) → S' ch = some (.lst []) → LeX dc S S' → q .non S'
def cIsText (K : PySem.W.Frag) : DSp := fun ds S q _ => ∃ m k tag tx at_ ch par vl ck, ds = [.ref m] ∧ S m = some (nodeC K k tag tx at_ ch par vl ck) ∧ (tag = .non ∨ ∃ z, tag = .str z) ∧ (tag = .non → q (.bl true) S) ∧ ((∃ z, tag = .str z) → q (.bl false) S)
def cPath (K : PySem.W.Frag) : DSp := fun ds S q _ => ∃ a l, ds = [.ref a] ∧ Up K S a l ∧ l.length ≤ 1000 ∧ ∀ S', Le S S' → q (.lst (l.reverse.map Dt.ref)) S'
def cLevels (K : PySem.W.Frag) : DSp := fun ds S q _ => ∃ m k tag tx at_ ch par vl ck, ds = [.ref m] ∧ S m = some (nodeC K k tag tx at_ ch par vl ck) ∧ S ch = some (.lst []) ∧ q (.int 1) S
section
variable {P : Program} {w : World} {K : PySem.W.Frag} {mg : Str → Option Value} {base : Heap}
theorem ok_Node (T : Tx K mg) {f : Addr} {fd : FuncData} (F : FunD K "__init__" "Node.__init__" (defArgs s_Node_init) (defBody s_Node_init) (defScope s_Node_init) [.str ""] [] f fd) : FnOk P w K mg base (L2.CX P w) 1 f fd ["self", "number", "tag", "text"] (spD K (cNode K)) := by
  refine dfn 4 F sc_Node_init (fun ds S q e h => ?_) rfl (fun cdv A outer s H E e hr => ⟨_, (dss_cons (ds_fld rfl (fd_Node_number T) (dv (pv 0)) (dv (pv 1)))
  (dss_cons (ds_fld rfl (fd_Node_tag T) (dv (pv 0)) (dv (pv 2)))
  (dss_cons (ds_fld rfl (fd_Node_text T) (dv (pv 0)) (dv (pv 3)))
  (dss_cons (ds_fld rfl (fd_Node_attributes T) (dv (pv 0)) de_dnewO)
  (dss_cons (ds_fld rfl (fd_Node_children T) (dv (pv 0)) (de_lstO da_nil))
  (dss_cons (ds_fld rfl (fd_Node_parent T) (dv (pv 0)) de_non)
  (dss_cons (ds_fld rfl (fd_Node_value T) (dv (pv 0)) de_str)
  (dss_one (ds_fld rfl (fd_Node_checked T) (dv (pv 0)) de_bl))))))))), fun ds S q h => ?_⟩)
  · obtain ⟨_, _, _, _, rfl, _⟩ := h
    rfl
  · obtain ⟨m, n, tag, tx, rfl, hm, h⟩ := h
    walk_at "go"
    intro at_ ha
    have ha0 := ha
    simp only [sput_sput] at ha0
    obtain ⟨na, ha0⟩ := sput_free ha0
    walk_at "go"
    intro ch hc
    have hc0 := hc
    obtain ⟨nc, hc0⟩ := sput_free hc0
    obtain ⟨nca, hc0⟩ := sput_free hc0
    simp only [sput_sput] at hc0
    obtain ⟨_, hc0⟩ := sput_free hc0
    walk_at "go"
    simp only [sput_sput]
    refine h at_ ch _ hc0 nc ha0 na nca.symm (by rw [sput_ne na, sput_ne nca.symm, sput_ne na, sput_same]) sput_same (by rw [sput_ne nc, sput_same]) ?_
    exact (((LeX.refl.own.put ha0).own).put hc0).own
theorem ok_is_text (T : Tx K mg) {f : Addr} {fd : FuncData} (F : FunD K "is_text" "Node.is_text" (defArgs s_Node_is_text) (defBody s_Node_is_text) (defScope s_Node_is_text) [] [] f fd) : FnOk P w K mg base (L2.CX P w) 1 f fd ["self"] (spD K (cIsText K)) := by
  refine dfn 1 F sc_Node_is_text (fun ds S q e h => ?_) rfl (fun cdv A outer s H E e hr => ⟨_, (dss_one (ds_ret (de_cmp od_is (de_fld rfl (fd_Node_tag T) (dv (pv 0))) de_non))), fun ds S q h => ?_⟩)
  · obtain ⟨_, _, _, _, _, _, _, _, _, rfl, _⟩ := h
    rfl
  · obtain ⟨m, k, tag, tx, at_, ch, par, vl, ck, rfl, hm, ht, h1, h2⟩ := h
    walk_at "go"
    rcases ht with rfl | ⟨z, rfl⟩
    · exact h1 rfl
    · exact h2 ⟨z, rfl⟩
theorem ok_path (T : Tx K mg) {f : Addr} {fd : FuncData} (F : FunD K "path" "Node.path" (defArgs s_Node_path) (defBody s_Node_path) (defScope s_Node_path) [] [] f fd) : FnOk P w K mg base (L2.CX P w) 1 f fd ["self"] (spD K (cPath K)) := by
  refine dfn 3 F sc_Node_path (fun ds S q e h => ?_) rfl (fun cdv A outer s H E e hr => ⟨_, (dss_cons (ds_par (i := 1) (j := 2) (by rfl) sc_Node_path.nd rfl rfl (by decide) rfl rfl (da_cons (de_lstO (da_cons (dv (pv 0)) da_nil)) (da_cons (de_fld rfl (fd_Node_parent T) (dv (pv 0))) da_nil)) (by rfl))
  (dss_cons (ds_while poX (dt_cmp od_isNot (dv (pv 2)) de_non) (dss_cons (ds_expr (de_bm rfl is_ls PySem.F.plainAttrs_list PySem.F.slot_list_append PySem.F.type_list_append md_append (dv (pv 1)) (da_cons (dv (pv 2)) da_nil)))
  (dss_one (ds_set (i := 2) sc_Node_path.nd rfl (Or.inl rfl) (de_fld rfl (fd_Node_parent T) (dv (pv 2)))))))
  (dss_one (ds_ret (de_rev rfl (dv (pv 1))))))), fun ds S q h => ?_⟩)
  · obtain ⟨_, _, rfl, _⟩ := h
    rfl
  · obtain ⟨a, l, rfl, u, ll, h⟩ := h
    obtain ⟨k, tag, tx, at_, ch, par, vl, ck, r, ha, rfl, hn⟩ := u.at
    walk_at "go"
    intro p hp
    have ha2 : (sput S p (.lst [.ref a])) a = _ := Le.put Le.refl hp a _ ha
    walk_at "go"
    refine ⟨fun j δ S' => ∃ l1 l2 d, a :: r = l1 ++ l2 ∧ j = l2.length ∧ Nx K S d l2 ∧ δ = [some (.ref a), some (.ref p), some d] ∧ S' = sput S p (.lst (l1.map Dt.ref)), ⟨_, [a], r, par, rfl, rfl, hn, rfl, rfl⟩, fun j δ S' hI => ?_⟩
    obtain ⟨l1, l2, d, el, rfl, hn, rfl, rfl⟩ := hI
    have ll2 := congrArg List.length el
    rw [List.length_append] at ll2
    rcases hn with ⟨rfl, rfl⟩ | ⟨b, rfl, u⟩
    · walk_at "go"
      rw [List.append_nil] at el
      rw [← List.map_reverse, ← el]
      exact h _ (Le.refl.put hp)
    · obtain ⟨k, tag, tx, at_, ch, par, vl, ck, r2, hb, rfl, hn⟩ := u.at
      have hb2 : ∀ x, (sput S p x) b = _ := fun x => Le.put Le.refl hp b _ hb
      walk_at "go"
      simp only [sput_sput]
      exact ⟨_, Nat.lt_succ_self _, l1 ++ [b], r2, par, by rw [el, List.append_assoc]; rfl, rfl, hn, rfl, by rw [List.map_append]; rfl⟩
theorem ok_levels (T : Tx K mg) {f : Addr} {fd : FuncData} (F : FunD K "levels_below" "Node.levels_below" (defArgs s_Node_levels_below) (defBody s_Node_levels_below) (defScope s_Node_levels_below) [] [] f fd) : FnOk P w K mg base (L2.CX P w) 1 f fd ["self"] (spD K (cLevels K)) := by
  refine dfn 5 F sc_Node_levels_below (fun ds S q e h => ?_) rfl (fun cdv A outer s H E e hr => ⟨_, (dss_cons (ds_par (i := 1) (j := 2) (by rfl) sc_Node_levels_below.nd rfl rfl (by decide) rfl rfl (da_cons (de_lst (da_cons (dv (pv 0)) da_nil)) (da_cons de_int da_nil)) (by rfl))
  (dss_cons (ds_while poX (dt_cmp (od_neN (hW_of hr)) (dv (pv 1)) (de_lst da_nil)) (dss_cons (ds_aug (i := 2) sc_Node_levels_below.nd rfl (Or.inl rfl) de_int ip_addD)
  (dss_one (ds_setLc2 (i := 1) (own := [("node", 3), ("child", 4)]) (vs1 := [4]) rfl sc_Node_levels_below.nd rfl rfl (sw_true rfl rfl rfl (by decide +kernel)) (di_lst rfl (dv (pv 1))) (blkOk_by (own := [("node", 3), ("child", 4)]) (N := sl_Node_levels_below) (sc := defScope s_Node_levels_below) (by decide +kernel)) (by decide) (fun _ _ _ _ _ => (gw_name (i := 3) sc_Node_levels_below.nd rfl (Or.inl rfl) (by decide))) (fun _ _ _ _ _ => ts_nil) (fun _ _ _ _ _ => (di_lst rfl (de_fld rfl (fd_Node_children T) (dv (pv 3))))) (fun _ _ _ _ _ => (gw_name (i := 4) sc_Node_levels_below.nd rfl (Or.inl rfl) (by decide))) (fun _ _ _ _ _ => ts_nil) (fun _ _ _ _ _ => (dv (pv 4)))))))
  (dss_one (ds_ret (dv (pv 2)))))), fun ds S q h => ?_⟩)
  · obtain ⟨_, _, _, _, _, _, _, _, _, rfl, _⟩ := h
    rfl
  · obtain ⟨m, k, tag, tx, at_, ch, par, vl, ck, rfl, hm, hc, h⟩ := h
    walk_at "go"
    refine ⟨fun j δ S' => S = S' ∧ ((j = 1 ∧ δ = [some (.ref m), some (.lst [.ref m]), some (.int 0), none, none]) ∨ j = 0 ∧ δ = [some (.ref m), some (.lst []), some (.int 1), none, none]), ⟨1, rfl, .inl ⟨rfl, rfl⟩⟩, fun j δ S' hI => ?_⟩
    rcases hI with ⟨rfl, ⟨rfl, rfl⟩ | ⟨rfl, rfl⟩⟩
    · walk_at "go"
      rw [List.isEmpty_cons]
      walk_at "go"
      unfold dLc2
      walk_at "go"
      refine ⟨fun i acc S' => acc = [] ∧ S = S', ⟨rfl, rfl⟩, fun i acc S' _ hI => trivial, fun i d acc S' hd hI => ?_, fun acc S' hI => ?_⟩
      · obtain ⟨rfl, rfl⟩ := hI
        match i, d, hd with
        | 0, _, rfl =>
          walk_at "go"
          refine ⟨fun j acc S' => acc = [] ∧ S = S', ⟨rfl, rfl⟩, fun _ _ _ _ hI => by obtain ⟨_, rfl⟩ := hI; exact hc, fun j d acc S' hd hI => (by cases hd), fun acc S' hI => hI⟩
      · obtain ⟨rfl, rfl⟩ := hI
        exact ⟨_, Nat.zero_lt_one, rfl, .inr ⟨rfl, rfl⟩⟩
    · walk_at "go"
      rw [List.isEmpty_nil]
      walk_at "go"
      exact h
end
end K19

open PySem PySem.Spec PyProof.Rows L2 Pr Dn LamX

namespace K19
open Mk
theorem df_Document_make_1 {K : PySem.W.Frag} : Dfl K [.str ""] [.str ""] := fun G => ⟨_, _, rfl, ⟨rfl, by decide, by kernel_rfl⟩, rfl⟩
/-- child put as the last one of parent -/
def PlP (K : PySem.W.Frag) (dc pa ch : Addr) (S : Store) (go : Store → Prop) : Prop := ∃ kp tp txp atp cp parp vp ckp kc tag tx atc cc vc ckc cs l nd n r v,
  S pa = some (nodeC K kp (.str tp) txp atp cp parp vp ckp) ∧ tp ∉ voids ∧ Up K S pa l ∧ l.length ≤ 98 ∧ (∀ x ∈ l, ∀ k' tag' tx' at' ch' par' v' c', S x = some (nodeC K k' tag' tx' at' ch' par' v' c') → k' ≠ kc) ∧
  S ch = some (nodeC K kc tag tx atc cc .non vc ckc) ∧ kc ≠ 0 ∧ S cc = some (.lst []) ∧ S cp = some (.lst cs) ∧ cs.length ≤ 1000000 ∧ S dc = some (docC K nd n [r, .int v]) ∧
  ∀ S', S' ch = some (nodeC K kc tag tx atc cc (.ref pa) vc ckc) → S' cp = some (.lst (cs ++ [.ref ch])) → S' dc = some (docC K nd n [r, .int (v + 1)]) → (∀ a x, a ≠ ch → a ≠ cp → a ≠ dc → S a = some x → S' a = some x) → go S'
def cNever : DSp := fun _ _ _ _ => False
def cPlace (K : PySem.W.Frag) : DSp := fun ds S q _ => ∃ dc pa ch n, ds = [.ref dc, .ref pa, .ref ch, .int n] ∧ (∀ kp tp txp atp cp parp vp ckp cs, S pa = some (nodeC K kp tp txp atp cp parp vp ckp) → S cp = some (.lst cs) → n = cs.length) ∧ S (He.cT K ("Document", some "place_before")).2 = some .gtb ∧ PlP K dc pa ch S (q .non)
def cAppend (K : PySem.W.Frag) : DSp := fun ds S q _ => ∃ dc pa ch, ds = [.ref dc, .ref pa, .ref ch] ∧ S (He.cT K ("Document", some "place_before")).2 = some .gtb ∧ PlP K dc pa ch S (q .non)
section
variable {P : Program} {w : World} {K : PySem.W.Frag} {mg : Str → Option Value} {base : Heap}
theorem ok_make (T : Tx K mg) (k_Node : MakX P w K mg base 1 "Node" (He.ga K "Node") (spD K (cNode K)) []) {f : Addr} {fd : FuncData} (F : FunD K "make" "Document.make" (defArgs s_Document_make) (defBody s_Document_make) (defScope s_Document_make) [.str ""] [] f fd) : FnOk P w K mg base (L2.CX P w) 3 f fd ["self", "tag", "text"] (spD K (cMake K)) := by
  refine dfn 4 F sc_Document_make (fun ds S q e h => ?_) rfl (fun cdv A outer s H E e hr => ⟨_, (dss_cons (ds_set (i := 3) sc_Document_make.nd rfl (Or.inl rfl) (de_make (nm := nm_Node) rfl k_Node dfl_nil hr (by decide) rfl paX (da_cons (de_fld rfl (fd_Document_next_number T) (dv (pv 0))) (da_cons (dv (pv 1)) (da_cons (dv (pv 2)) da_nil)))))
  (dss_cons (ds_asg (dv (pv 3)) (dg_subD (hu_of hr) (de_fld rfl (fd_Document_nodes T) (dv (pv 0))) (de_fld rfl (fd_Node_number T) (dv (pv 3)))))
  (dss_cons (ds_fldaug (K := K) rfl (fd_Document_next_number T) in_addD (dv (pv 0)) de_int)
  (dss_one (ds_ret (dv (pv 3))))))), fun ds S q h => ?_⟩)
  · obtain ⟨_, _, _, _, _, _, _, rfl, _⟩ := h
    rfl
  · obtain ⟨dc, nd, n, r, L, tag, tx, rfl, hd, hn, hL, h⟩ := h
    walk_at "go"
    intro m hm
    refine ⟨m, n, tag, tx, rfl, sput_same, fun at_ ch S1 hc nc hta nam nac hat h1 h2 le => ⟨rfl, ?_⟩⟩
    obtain ⟨_, hc⟩ := sput_free hc
    obtain ⟨_, hta⟩ := sput_free hta
    have nad : at_ ≠ dc := fun z => by rw [z, hd] at hta; cases hta
    have nan : at_ ≠ nd := fun z => by rw [z, hn] at hta; cases hta
    have ndm : dc ≠ m := fun z => by rw [z, hm] at hd; cases hd
    have nnm : nd ≠ m := fun z => by rw [z, hm] at hn; cases hn
    have nnd : nd ≠ dc := fun z => by rw [z, hd] at hn; cases hn
    have ncd : ch ≠ dc := fun z => by rw [z, hd] at hc; cases hc
    have ncn : ch ≠ nd := fun z => by rw [z, hn] at hc; cases hc
    have hd1 : S1 dc = _ := le _ _ ndm (by rw [sput_ne ndm]; exact hd)
    have hn1 : S1 nd = _ := le _ _ nnm (by rw [sput_ne nnm]; exact hn)
    walk_at "go"
    refine ⟨size6 (by omega), ?_⟩
    walk_at "go"
    refine h m at_ ch _ hm hc nc hta nam nac (by rw [sput_ne nad, sput_ne nan]; exact hat) ?_ ?_ sput_same ?_ fun a c n1 n2 e => ?_
    · rw [sput_ne ndm.symm, sput_ne nnm.symm]; exact h1
    · rw [sput_ne ncd, sput_ne ncn]; exact h2
    · rw [sput_ne nnd, sput_same]
    · rw [sput_ne n1, sput_ne n2]
      have nam : a ≠ m := fun z => by rw [z, hm] at e; cases e
      exact le _ _ nam (by rw [sput_ne nam]; exact e)
theorem ok_Document (T : Tx K mg) (m_Document_make_1 : MetX P w K mg base 3 (He.ga K "Document") "make" (spD K (cMake K)) [.str ""]) {f : Addr} {fd : FuncData} (F : FunD K "__init__" "Document.__init__" (defArgs s_Document_init) (defBody s_Document_init) (defScope s_Document_init) [] [] f fd) : FnOk P w K mg base (L2.CX P w) 4 f fd ["self"] (spD K (cDoc K)) := by
  refine dfn 1 F sc_Document_init (fun ds S q e h => ?_) rfl (fun cdv A outer s H E e hr => ⟨_, (dss_cons (ds_fld rfl (fd_Document_nodes T) (dv (pv 0)) de_dnewO)
  (dss_cons (ds_fld rfl (fd_Document_next_number T) (dv (pv 0)) de_int)
  (dss_cons (ds_fld rfl (fd_Document_root T) (dv (pv 0)) (de_meth (nm := nm_Document) rfl m_Document_make_1 (by decide +kernel) (df_Document_make_1) hr (by decide) paX (dv (pv 0)) (da_cons de_str da_nil)))
  (dss_one (ds_fld rfl (fd_Document_version T) (dv (pv 0)) de_int))))), fun ds S q h => ?_⟩)
  · obtain ⟨_, rfl, _⟩ := h
    rfl
  · obtain ⟨dc, rfl, hd, h⟩ := h
    walk_at "go"
    intro nd hn
    walk_at "go"
    refine ⟨dc, nd, 0, [], [], _, _, rfl, sput_same, by rw [sput_ne (fun z => by rw [z, hd] at hn; cases hn), sput_ne (fun z => by rw [z, hd] at hn; cases hn), sput_same], Nat.zero_le _, fun m at_ ch S1 hm hc nc hta nam nac hat h1 h2 h3 h4 le => ?_⟩
    obtain ⟨nad, hta⟩ := sput_free hta
    obtain ⟨_, hta⟩ := sput_free hta
    obtain ⟨nan, hta⟩ := sput_free hta
    obtain ⟨nmd, hm⟩ := sput_free hm
    obtain ⟨_, hm⟩ := sput_free hm
    obtain ⟨nmn, hm⟩ := sput_free hm
    obtain ⟨ncd, hc⟩ := sput_free hc
    obtain ⟨_, hc⟩ := sput_free hc
    obtain ⟨ncn, hc⟩ := sput_free hc
    walk_at "go"
    have nnd : nd ≠ dc := fun z => by rw [z, hd] at hn; cases hn
    refine h nd m at_ ch _ _ hn hm hc hta nan.symm (by rw [sput_ne nad, sput_ne nad]; exact hat) sput_same (by rw [sput_ne nnd, sput_ne nnd]; exact h4) rfl (by rw [sput_ne nmd, sput_ne nmd]; exact h1) (by rw [sput_ne ncd, sput_ne ncd]; exact h2) fun a c n1 e => ?_
    rw [sput_ne n1, sput_ne n1]
    have nan : a ≠ nd := fun z => by rw [z, hn] at e; cases e
    exact le _ _ n1 nan (by rw [sput_ne n1, sput_ne n1, sput_ne nan]; exact e)
theorem ok_place (T : Tx K mg) (m_Node_is_text : MetX P w K mg base 1 (He.ga K "Node") "is_text" (spD K (cIsText K)) []) (m_Node_path : MetX P w K mg base 1 (He.ga K "Node") "path" (spD K (cPath K)) [])
    (m_Node_levels_below : MetX P w K mg base 1 (He.ga K "Node") "levels_below" (spD K (cLevels K)) []) (m_Node_place_in : MetX P w K mg base 1 (He.ga K "Node") "place_in" (spD K cNever) []) (m_Document_remove : MetX P w K mg base 3 (He.ga K "Document") "remove" (spD K cNever) [])
    {f : Addr} {fd : FuncData} (F : FunD K "place_before" "Document.place_before" (defArgs s_Document_place_before) (defBody s_Document_place_before) (defScope s_Document_place_before) [] [] f fd) (hTB : ∀ c, fd.code = .ref c → TabB base mg c (He.cT K ("Document", some "place_before")).2) : FnOk P w K mg base (L2.CX P w) 5 f fd ["self", "parent", "child", "place"] (spD K (cPlace K)) := by
  refine dfnC 6 F sc_Document_place_before hTB (fun ds S q e h => ?_) rfl (fun c0 A outer s H E e TB hr => ⟨_, (dss_cons (ds_if (PW.pt (dt_or (de_tru rfl (de_meth0 (nm := nm_Node) rfl m_Node_is_text (by decide +kernel) dfl_nil hr (by decide) paX (dv (pv 1)))) (pw_or1 (dt_cmp (od_in rfl (hW_of hr)) (de_fld rfl (fd_Node_tag T) (dv (pv 1))) (de_gcT rfl T.g_VOID (rep_tup T.t_VOID)))))) (dss_one (dr_raise (C := He.ga K "TreeError") PySem.F.excBase_ValueError T.x_TreeError.1 T.g_TreeError T.x_TreeError.2.1 (raises_own T.x_TreeError.2.2.1 T.x_TreeError.2.2.2) rfl)) dss_nil)
  (dss_cons (ds_if (PW.pt (dt_or (dt_cmp (od_eq rfl (hU_of hr)) (de_fld rfl (fd_Node_number T) (dv (pv 2))) de_int) (pw_or1 (de_tru rfl (de_anyG (k := 0) (ig := none) (own := [("node", 5)]) rfl (Or.inl ⟨rfl, rfl⟩) (hr.mono (by decide)) (by rfl) T.b_any TB rfl sc_Document_place_before.nd (gnB_of (N := sl_Document_place_before) (sc := defScope s_Document_place_before) (by decide +kernel)) (fun _ z => by cases z) (di_lst rfl (de_meth0 (nm := nm_Node) rfl m_Node_path (by decide +kernel) dfl_nil hr (by decide) paX (dv (pv 1)))) (fun _ => rfl) ⟨(fun s H A' cl L code fp hr => (gw_name (i := 5) sc_Document_place_before.nd rfl (Or.inl rfl) (by decide))), (fun s H A' cl L code fp hr => ts_nil), (fun s H A' cl L code fp hr => (de_cmp (od_eq rfl (hU_of hr)) (de_fld rfl (fd_Node_number T) (dv (pv 5))) (de_fld rfl (fd_Node_number T) (dv (pv 2)))))⟩))))) (dss_one (dr_raise (C := He.ga K "TreeError") PySem.F.excBase_ValueError T.x_TreeError.1 T.g_TreeError T.x_TreeError.2.1 (raises_own T.x_TreeError.2.2.1 T.x_TreeError.2.2.2) rfl)) dss_nil)
  (dss_cons (ds_if (dt_cmp od_gt (de_op (od_add rfl) (de_callB (cd_len rfl) (by rfl) T.b_len (by decide +kernel) (da_cons (de_meth0 (nm := nm_Node) rfl m_Node_path (by decide +kernel) dfl_nil hr (by decide) paX (dv (pv 1))) da_nil)) (de_meth0 (nm := nm_Node) rfl m_Node_levels_below (by decide +kernel) dfl_nil hr (by decide) paX (dv (pv 2)))) (de_gcI rfl T.g_MOST_LEVELS)) (dss_one (dr_raise (C := He.ga K "TreeError") PySem.F.excBase_ValueError T.x_TreeError.1 T.g_TreeError T.x_TreeError.2.1 (raises_own T.x_TreeError.2.2.1 T.x_TreeError.2.2.2) rfl)) dss_nil)
  (dss_cons (ds_if (dt_not (dt_chain od_le od_le de_int (dv (pv 3)) (de_callB (cd_len rfl) (by rfl) T.b_len (by decide +kernel) (da_cons (de_fld rfl (fd_Node_children T) (dv (pv 1))) da_nil)))) (dss_one (dr_raise (C := He.ga K "TreeError") PySem.F.excBase_ValueError T.x_TreeError.1 T.g_TreeError T.x_TreeError.2.1 (raises_own T.x_TreeError.2.2.1 T.x_TreeError.2.2.2) rfl)) dss_nil)
  (dss_cons (ds_if (dt_cmp od_isNot (de_fld rfl (fd_Node_parent T) (dv (pv 2))) de_non) (dss_cons (ds_set (i := 4) sc_Document_place_before.nd rfl (Or.inl rfl) (de_meth0 (nm := nm_Node) rfl m_Node_place_in (by decide +kernel) dfl_nil hr (by decide) paX (dv (pv 2))))
  (dss_cons (ds_if (PW.pt (dt_and (dt_cmp (od_eq rfl (hU_of hr)) (de_fld rfl (fd_Node_number T) (de_fld rfl (fd_Node_parent T) (dv (pv 2)))) (de_fld rfl (fd_Node_number T) (dv (pv 1)))) (pw_and1 (dt_cmp od_lt (dv (pv 4)) (dv (pv 3)))))) (dss_one (ds_aug (i := 3) sc_Document_place_before.nd rfl (Or.inl rfl) de_int ip_subD)) dss_nil)
  (dss_one (ds_expr (de_meth (nm := nm_Document) rfl m_Document_remove (by decide +kernel) dfl_nil hr (by decide) paX (dv (pv 0)) (da_cons (dv (pv 2)) da_nil)))))) dss_nil)
  (dss_cons (ds_expr (de_bm rfl is_ls PySem.F.plainAttrs_list PySem.F.slot_list_insert PySem.F.type_list_insert md_insert (de_fld rfl (fd_Node_children T) (dv (pv 1))) (da_cons (dv (pv 3)) (da_cons (dv (pv 2)) da_nil))))
  (dss_cons (ds_fld rfl (fd_Node_parent T) (dv (pv 2)) (dv (pv 1)))
  (dss_one (ds_fldaug (K := K) rfl (fd_Document_version T) in_addD (dv (pv 0)) de_int))))))))), fun ds S q h => ?_⟩)
  · obtain ⟨_, _, _, _, rfl, _⟩ := h
    rfl
  · obtain ⟨dc, pa, ch, n, rfl, hn, hT, kp, tp, txp, atp, cp, parp, vp, ckp, kc, tag, tx, atc, cc, vc, ckc, cs, l, nd, nn, r, v, hp, htp, u, ul, hne, hc, hkc, hcc, hcp, csl, hd, h⟩ := h
    obtain rfl := hn _ _ _ _ _ _ _ _ _ hp hcp
    walk_at "go"
    refine ⟨pa, kp, .str tp, txp, atp, cp, parp, vp, ckp, rfl, hp, .inr ⟨tp, rfl⟩, (fun z => by cases z), fun _ => ?_⟩
    walk_at "go"
    refine in_tup ["br", "hr", "img", "input", "meta", "link"] rfl ?_
    rw [decide_eq_false (show ¬ tp ∈ (["br", "hr", "img", "input", "meta", "link"] : List Str) from htp)]
    walk_at "go"
    refine ift_pf hkc ?_
    walk_at "go"
    refine ⟨pa, l, rfl, u, by omega, fun S1 le => ⟨le _ _ hT, fun c P' => ?_⟩⟩
    have hp1 : S1 pa = _ := le _ _ hp
    have hc1 : S1 ch = _ := le _ _ hc
    have hcc1 : S1 cc = _ := le _ _ hcc
    have hcp1 : S1 cp = _ := le _ _ hcp
    have hd1 : S1 dc = _ := le _ _ hd
    refine any_map (xs := l.reverse) (f := Dt.ref) rfl (fun _ => false) trivial (fun x hx C D hC => ?_) ?_
    · obtain ⟨k', tag', tx', at', ch', par', v', c', hx2⟩ := u.mem x (List.mem_reverse.mp hx)
      have ne := hne x (List.mem_reverse.mp hx) _ _ _ _ _ _ _ _ hx2
      have hx3 : S1 x = _ := le _ _ hx2
      walk_at "go"
      rw [decide_eq_false ne]
      exact hC
    · rw [show l.reverse.any (fun _ => false) = false by simp]
      walk_at "go"
      refine ⟨pa, l, rfl, u.le (le.hold l), by omega, fun S2 le2 => ?_⟩
      have hp2 : S2 pa = _ := le2 _ _ hp1
      have hc2 : S2 ch = _ := le2 _ _ hc1
      have hcc2 : S2 cc = _ := le2 _ _ hcc1
      have hcp2 : S2 cp = _ := le2 _ _ hcp1
      have hd2 : S2 dc = _ := le2 _ _ hd1
      walk_at "go"
      refine ⟨ch, kc, tag, tx, atc, cc, .non, vc, ckc, rfl, hc2, hcc2, ?_⟩
      walk_at "go"
      rw [List.length_map, List.length_reverse]
      refine ift_pf (by omega) ?_
      walk_at "go"
      rw [decide_eq_true (show (0 : Int) ≤ cs.length by omega)]
      walk_at "go"
      refine iftN_f (by omega) ?_
      walk_at "go"
      refine ⟨⟨size6 (by omega), by omega, by omega⟩, ?_⟩
      rw [Int.toNat_natCast, List.take_length, List.drop_length, List.append_nil]
      have ncp : ch ≠ cp := fun z => by rw [z, hcp] at hc; cases hc
      have ndp : dc ≠ cp := fun z => by rw [z, hcp] at hd; cases hd
      have npp : pa ≠ cp := fun z => by rw [z, hcp] at hp; cases hp
      have ndc : dc ≠ ch := fun z => by
        rw [z, hc] at hd
        injection hd with hd
        injection hd with _ hd _
        exact absurd hd (by decide)
      walk_at "go"
      refine h _ ?_ ?_ ?_ fun a x n1 n2 n3 ha => ?_
      · rw [sput_ne ndc.symm, sput_same]
      · rw [sput_ne ndp.symm, sput_ne ncp.symm, sput_same]
      · exact sput_same
      · rw [sput_ne n3, sput_ne n1, sput_ne n2]
        exact le2 _ _ (le _ _ ha)
theorem ok_append (T : Tx K mg) (m_Document_place_before : MetX P w K mg base 5 (He.ga K "Document") "place_before" (spD K (cPlace K)) []) {f : Addr} {fd : FuncData} (F : FunD K "append" "Document.append" (defArgs s_Document_append) (defBody s_Document_append) (defScope s_Document_append) [] [] f fd) : FnOk P w K mg base (L2.CX P w) 6 f fd ["self", "parent", "child"] (spD K (cAppend K)) := by
  refine dfn 3 F sc_Document_append (fun ds S q e h => ?_) rfl (fun cdv A outer s H E e hr => ⟨_, (dss_one (ds_expr (de_meth (nm := nm_Document) rfl m_Document_place_before (by decide +kernel) dfl_nil hr (by decide) paX (dv (pv 0)) (da_cons (dv (pv 1)) (da_cons (dv (pv 2)) (da_cons (de_callB (cd_len rfl) (by rfl) T.b_len (by decide +kernel) (da_cons (de_fld rfl (fd_Node_children T) (dv (pv 1))) da_nil)) da_nil)))))), fun ds S q h => ?_⟩)
  · obtain ⟨_, _, _, rfl, _⟩ := h
    rfl
  · obtain ⟨dc, pa, ch, rfl, tb, kp, tp, txp, atp, cp, parp, vp, ckp, kc, tag, tx, atc, cc, vc, ckc, cs, l, nd, nn, r, v, hp, htp, u, ul, hne, hc, hkc, hcc, hcp, csl, hd, h⟩ := h
    walk_at "go"
    refine ⟨dc, pa, ch, cs.length, rfl, fun kp' tp' txp' atp' cp' parp' vp' ckp' cs' h1 h2 => ?_, tb, kp, tp, txp, atp, cp, parp, vp, ckp, kc, tag, tx, atc, cc, vc, ckc, cs, l, nd, nn, r, v, hp, htp, u, ul, hne, hc, hkc, hcc, hcp, csl, hd, h⟩
    rw [hp] at h1
    injection h1 with h1
    injection h1 with _ _ h1
    injection h1 with _ h1
    injection h1 with _ h1
    injection h1 with _ h1
    injection h1 with _ h1
    injection h1 with h1 _
    injection h1 with h1
    subst h1
    rw [hcp] at h2
    injection h2 with h2
    injection h2 with h2
    rw [h2]
theorem no_place_in {f : Addr} {fd : FuncData} (F : FunD K "place_in" "Node.place_in" (defArgs s_Node_place_in) (defBody s_Node_place_in) (defScope s_Node_place_in) [] [] f fd) : FnOk P w K mg base (L2.CX P w) 1 f fd ["self"] (spD K cNever) := fn_no F sc_Node_place_in fun ds S q e h => h.elim
theorem no_remove {f : Addr} {fd : FuncData} (F : FunD K "remove" "Document.remove" (defArgs s_Document_remove) (defBody s_Document_remove) (defScope s_Document_remove) [] [] f fd) : FnOk P w K mg base (L2.CX P w) 3 f fd ["self", "child"] (spD K cNever) := fn_no F sc_Document_remove fun ds S q e h => h.elim
end
end K19

open PySem PySem.Spec PyProof.Rows L2 Pr Dn
/-! the tree that is read, in the store -/
namespace K19
open Mk
abbrev Tri := Addr × Addr × Addr
def ad (A : List Tri) (i : Nat) : Addr := (A.getD i (0, 0, 0)).1
@[reducible] def tagD (o : Option Str) : Dt := match o with
  | none => .non
  | some z => .str z
@[reducible] def parO (A : List Tri) (o : Option Nat) : Dt := match o with
  | none => .non
  | some i => .ref (ad A i)
def dkD (fd : List (Str × Str)) : List (Key × Dt) := fd.map fun p => ((Sum.inr p.1 : Key), Dt.str p.2)
@[reducible] def refsO (A : List Tri) (l : List Nat) : List Dt := l.map fun i => Dt.ref (ad A i)
@[reducible] def tbC (K : PySem.W.Frag) (sc dc op : Addr) : Cell := .ins (He.ga K "TreeBuilder") nm_TreeBuilder [.ref sc, .ref dc, .ref op]
@[reducible] def scC (K : PySem.W.Frag) (z : Str) (p : Nat) : Cell := .ins (He.ga K "Scanner") nm_Scanner [.str z, .int p]
def numD (A : List Tri) : List (Key × Dt) := A.zipIdx.map fun q => ((Sum.inl (q.2 : Int) : Key), Dt.ref q.1.1)
theorem numD_len {A : List Tri} : (numD A).length = A.length := by unfold numD; rw [List.length_map, List.length_zipIdx]
theorem numD_app {A : List Tri} {r : Tri} : numD (A ++ [r]) = numD A ++ [((Sum.inl (A.length : Int) : Key), Dt.ref r.1)] := by
  unfold numD
  rw [List.zipIdx_append, List.map_append, Nat.zero_add]
  rfl
theorem kPut_new (L : List (Key × Dt)) (k : Key) (v : Dt) (h : ∀ q ∈ L, q.1 ≠ k) : kPut L k v = L ++ [(k, v)] := by
  unfold kPut
  rw [if_neg fun a => ?_]
  obtain ⟨q, hq, e⟩ := List.any_eq_true.mp a
  exact h q hq (of_decide_eq_true e)
theorem numD_put {A : List Tri} {L : List (Key × Dt)} {v : Dt} (h : L = numD A) : kPut L (Sum.inl (A.length : Int)) v = numD A ++ [((Sum.inl (A.length : Int) : Key), v)] := by
  subst h
  refine kPut_new _ _ _ fun q hq e => ?_
  unfold numD at hq
  obtain ⟨⟨r, i⟩, hr, rfl⟩ := List.mem_map.mp hq
  have := List.mem_zipIdx hr
  injection e with e
  omega
structure Bld (K : PySem.W.Frag) (S0 S : Store) (tb sc dc dn op : Addr) (A : List Tri) (z : Str) (p : Nat) (m : PM) : Prop where
  htb : S tb = some (tbC K sc dc op)
  hsc : S sc = some (scC K z p)
  hdc : ∃ v, S dc = some (docC K dn (A.length : Nat) [.ref (ad A 0), .int v])
  hdn : ∃ L, S dn = some (.dic L) ∧ L = numD A
  hop : S op = some (.lst (refsO A m.opn))
  len : A.length = m.N.length
  nds : ∀ i n a t c, m.N[i]? = some n → A[i]? = some (a, t, c) → S a = some (nodeC K (i : Nat) (tagD n.tag) (.str n.text) t c (parO A n.par) (.str n.val) (.bl n.chk)) ∧ S t = some (.dic (dkD n.attrs)) ∧ S c = some (.lst (refsO A n.kids))
  le : Le S0 S
  ftb : S0 tb = none
  fsc : S0 sc = none
  fdc : S0 dc = none
  fdn : S0 dn = none
  fop : S0 op = none
  fA : ∀ r ∈ A, S0 r.1 = none ∧ S0 r.2.1 = none ∧ S0 r.2.2 = none
  opc : op ∉ A.map (·.2.2)
  chn : (A.map (·.2.2)).Nodup
  dna : dn ∉ A.map (·.2.1)
theorem ad_at {A : List Tri} {i : Nat} {a t c : Addr} (h : A[i]? = some (a, t, c)) : ad A i = a := by
  unfold ad
  rw [List.getD_eq_getElem?_getD, h]
  rfl
theorem ad_app {A : List Tri} {r : Tri} {i : Nat} (h : i < A.length) : ad (A ++ [r]) i = ad A i := by
  unfold ad
  rw [List.getD_eq_getElem?_getD, List.getD_eq_getElem?_getD, List.getElem?_append_left h]
section
variable {K : PySem.W.Frag} {S0 S : Store} {tb sc dc dn op : Addr} {A : List Tri} {z : Str} {p : Nat} {m : PM}
theorem Bld.at (h : Bld K S0 S tb sc dc dn op A z p m) {i : Nat} (hi : i < m.N.length) : ∃ t c, A[i]? = some (ad A i, t, c) ∧ S (ad A i) = some (nodeC K (i : Nat) (tagD (nod m i).tag) (.str (nod m i).text) t c (parO A (nod m i).par) (.str (nod m i).val) (.bl (nod m i).chk)) ∧ S t = some (.dic (dkD (nod m i).attrs)) ∧ S c = some (.lst (refsO A (nod m i).kids)) := by
  obtain ⟨⟨a, t, c⟩, ha⟩ : ∃ r, A[i]? = some r := ⟨_, List.getElem?_eq_getElem (by rw [h.len]; exact hi)⟩
  obtain ⟨h1, h2, h3⟩ := h.nds i _ a t c (nod_get hi) ha
  rw [ad_at ha]
  exact ⟨t, c, ha, h1, h2, h3⟩
/-- the way up from an open node -/
theorem Bld.up (h : Bld K S0 S tb sc dc dn op A z p m) (w : Wf m) : ∀ j a, m.opn[j]? = some a → ∃ l : List Nat, Up K S (ad A a) (l.map (ad A)) ∧ l.length = j + 1 ∧ ∀ x ∈ l, x < m.N.length
  | 0, a, ha => by
    rw [w.root] at ha
    injection ha with ha
    subst ha
    obtain ⟨t, c, _, h1, _⟩ := h.at (w.lt 0 (List.mem_of_getElem? w.root))
    rw [w.nod0] at h1
    exact ⟨[0], .top h1, rfl, fun x hx => by rw [List.mem_singleton.mp hx]; exact w.lt 0 (List.mem_of_getElem? w.root)⟩
  | j + 1, b, hb => by
    obtain ⟨a, ha⟩ : ∃ a, m.opn[j]? = some a := ⟨_, List.getElem?_eq_getElem (Nat.lt_of_succ_lt (List.getElem?_eq_some_iff.mp hb).1)⟩
    obtain ⟨l, u, ll, hl⟩ := h.up w j a ha
    obtain ⟨t, c, _, h1, _⟩ := h.at (w.lt b (List.mem_of_getElem? hb))
    rw [w.chain j a b ha hb] at h1
    exact ⟨b :: l, .step h1 u, by rw [List.length_cons, ll], fun x hx => (List.mem_cons.mp hx).elim (fun e => by rw [e]; exact w.lt b (List.mem_of_getElem? hb)) (hl x)⟩
/-- the scanner goes on -/
theorem Bld.scan (h : Bld K S0 S tb sc dc dn op A z p m) (p' : Nat) : Bld K S0 (sput S sc (scC K z p')) tb sc dc dn op A z p' m := by
  have ne : ∀ x c, S x = some c → (∀ C nm l, c = .ins C nm l → l.length ≠ 2) → x ≠ sc := fun x c hx hn e => by
    rw [e, h.hsc] at hx
    injection hx with hx
    exact hn _ _ _ hx.symm rfl
  obtain ⟨v, hdc⟩ := h.hdc
  obtain ⟨L, hdn, hL⟩ := h.hdn
  refine ⟨by rw [sput_ne (ne _ _ h.htb (fun C nm l e => by cases e; exact Nat.ne_of_beq_eq_false rfl))]; exact h.htb, sput_same, ⟨v, by rw [sput_ne (ne _ _ hdc (fun C nm l e => by cases e; exact Nat.ne_of_beq_eq_false rfl))]; exact hdc⟩, ⟨L, by rw [sput_ne (ne _ _ hdn (fun C nm l e => by cases e))]; exact hdn, hL⟩, by rw [sput_ne (ne _ _ h.hop (fun C nm l e => by cases e))]; exact h.hop, h.len, fun i n a t c h1 h2 => ?_,
    fun x c hx => by rw [sput_ne (fun e => by rw [e, h.fsc] at hx; cases hx)]; exact h.le x c hx, h.ftb, h.fsc, h.fdc, h.fdn, h.fop, h.fA, h.opc, h.chn, h.dna⟩
  obtain ⟨e1, e2, e3⟩ := h.nds i n a t c h1 h2
  exact ⟨by rw [sput_ne (ne _ _ e1 (fun C nm l e => by cases e; exact Nat.ne_of_beq_eq_false rfl))]; exact e1, by rw [sput_ne (ne _ _ e2 (fun C nm l e => by cases e))]; exact e2, by rw [sput_ne (ne _ _ e3 (fun C nm l e => by cases e))]; exact e3⟩
/-- the open ones are changed in place -/
theorem Bld.opn (h : Bld K S0 S tb sc dc dn op A z p m) (o : List Nat) : Bld K S0 (sput S op (.lst (refsO A o))) tb sc dc dn op A z p { m with opn := o } := by
  have ne : ∀ x c, S x = some c → (∀ l, c ≠ .lst l) → x ≠ op := fun x c hx hn e => by
    rw [e, h.hop] at hx
    injection hx with hx
    exact hn _ hx.symm
  obtain ⟨v, hdc⟩ := h.hdc
  obtain ⟨L, hdn, hL⟩ := h.hdn
  refine ⟨by rw [sput_ne (ne _ _ h.htb (fun l e => by cases e))]; exact h.htb, by rw [sput_ne (ne _ _ h.hsc (fun l e => by cases e))]; exact h.hsc, ⟨v, by rw [sput_ne (ne _ _ hdc (fun l e => by cases e))]; exact hdc⟩, ⟨L, by rw [sput_ne (ne _ _ hdn (fun l e => by cases e))]; exact hdn, hL⟩, sput_same, h.len, fun i n a t c h1 h2 => ?_,
    fun x c hx => by rw [sput_ne (fun e => by rw [e, h.fop] at hx; cases hx)]; exact h.le x c hx, h.ftb, h.fsc, h.fdc, h.fdn, h.fop, h.fA, h.opc, h.chn, h.dna⟩
  obtain ⟨e1, e2, e3⟩ := h.nds i n a t c h1 h2
  exact ⟨by rw [sput_ne (ne _ _ e1 (fun l e => by cases e))]; exact e1, by rw [sput_ne (ne _ _ e2 (fun l e => by cases e))]; exact e2, by rw [sput_ne (fun e => h.opc (List.mem_map.mpr ⟨_, List.mem_of_getElem? h2, e⟩))]; exact e3⟩
/-- the open ones are a new list -/
theorem Bld.opnN (h : Bld K S0 S tb sc dc dn op A z p m) {q : Addr} (hq : S q = none) (o : List Nat) : Bld K S0 (sput (sput S q (.lst (refsO A o))) tb (tbC K sc dc q)) tb sc dc dn q A z p { m with opn := o } := by
  have nq : ∀ x c, S x = some c → x ≠ q := fun x c hx e => by rw [e, hq] at hx; cases hx
  have ne : ∀ x c, S x = some c → (∀ C nm l, c = .ins C nm l → l.length ≠ 3) → x ≠ tb := fun x c hx hn e => by
    rw [e, h.htb] at hx
    injection hx with hx
    exact hn _ _ _ hx.symm rfl
  have kp : ∀ x c, S x = some c → (∀ C nm l, c = .ins C nm l → l.length ≠ 3) → sput (sput S q (.lst (refsO A o))) tb (tbC K sc dc q) x = some c := fun x c hx hn => by rw [sput_ne (ne x c hx hn), sput_ne (nq x c hx)]; exact hx
  obtain ⟨v, hdc⟩ := h.hdc
  obtain ⟨L, hdn, hL⟩ := h.hdn
  have f0 : ∀ x, S x = none → S0 x = none := fun x hx => by
    cases e : S0 x with
    | none => rfl
    | some c => rw [h.le x c e] at hx; cases hx
  refine ⟨sput_same, kp _ _ h.hsc (fun C nm l e => by cases e; exact Nat.ne_of_beq_eq_false rfl), ⟨v, kp _ _ hdc (fun C nm l e => by cases e; exact Nat.ne_of_beq_eq_false rfl)⟩, ⟨L, kp _ _ hdn (fun C nm l e => by cases e), hL⟩, by rw [sput_ne (nq _ _ h.htb).symm, sput_same], h.len, fun i n a t c h1 h2 => ?_,
    fun x c hx => by rw [sput_ne (fun e => by rw [e, h.ftb] at hx; cases hx), sput_ne (nq x c (h.le x c hx))]; exact h.le x c hx, h.ftb, h.fsc, h.fdc, h.fdn, f0 q hq, h.fA, fun hm => ?_, h.chn, h.dna⟩
  · obtain ⟨e1, e2, e3⟩ := h.nds i n a t c h1 h2
    exact ⟨kp _ _ e1 (fun C nm l e => by cases e; exact Nat.ne_of_beq_eq_false rfl), kp _ _ e2 (fun C nm l e => by cases e), kp _ _ e3 (fun C nm l e => by cases e)⟩
  · obtain ⟨⟨a, t, c⟩, hr, e⟩ := List.mem_map.mp hm
    obtain ⟨i, hi⟩ := List.getElem?_of_mem hr
    have hl : i < m.N.length := by rw [← h.len]; exact (List.getElem?_eq_some_iff.mp hi).1
    obtain ⟨_, _, e3⟩ := h.nds i _ a t c (nod_get hl) hi
    exact nq _ _ e3 e
end
end K19

open PySem PySem.Spec PyProof.Rows L2 Pr Dn LamX

namespace K19
open Mk
theorem ent_get (z : Str) : aGet entD z = (aGet entS z).map He.Dv.str := by
  unfold entD entS aGet
  simp only [List.find?_cons]
  by_cases h1 : ("lt" : Str) = z
  · simp [h1]
  · by_cases h2 : ("gt" : Str) = z
    · simp [h1, h2]
    · by_cases h3 : ("amp" : Str) = z
      · simp [h1, h2, h3]
      · by_cases h4 : ("quot" : Str) = z
        · simp [h1, h2, h3, h4]
        · simp [h1, h2, h3, h4]

def cScI (K : PySem.W.Frag) : DSp := fun ds S q _ => ∃ m z, ds = [.ref m, .str z] ∧ S m = some (.ins (He.ga K "Scanner") nm_Scanner []) ∧ q .non (sput S m (scC K z 0))
def cHere (K : PySem.W.Frag) : DSp := fun ds S q _ => ∃ sc z p, ∃ n : Nat, ds = [.ref sc, .int n] ∧ S sc = some (scC K z p) ∧ q (.str (hereS z p n)) S
def cSkip (K : PySem.W.Frag) : DSp := fun ds S q _ => ∃ sc z p, ds = [.ref sc] ∧ S sc = some (scC K z p) ∧ q .non (sput S sc (scC K z (skipP z p)))
def cName (K : PySem.W.Frag) : DSp := fun ds S q e => ∃ sc z p, ds = [.ref sc] ∧ S sc = some (scC K z p) ∧ (nameP z p = p → e (He.ga K "MarkupError") S) ∧ (nameP z p ≠ p → q (.str (cutS z (some (p : Int)) (some (nameP z p : Nat)))) (sput S sc (scC K z (nameP z p))))
def cUp (K : PySem.W.Frag) : DSp := fun ds S q e => ∃ sc z p sign, ds = [.ref sc, .str sign] ∧ S sc = some (scC K z p) ∧ p ≤ z.length ∧ sign.length ≤ 100000 ∧ (upP z sign p = none → e (He.ga K "MarkupError") S) ∧ (∀ t p', upP z sign p = some (t, p') → q (.str t) (sput S sc (scC K z p')))
def cWith (K : PySem.W.Frag) : DSp := fun ds S q e => ∃ z, ds = [.str z] ∧ z.length ≤ 1000000 ∧ (withEnt z = none → e (He.ga K "MarkupError") S) ∧ (∀ t, withEnt z = some t → q (.str t) S)
section
variable {P : Program} {w : World} {K : PySem.W.Frag} {mg : Str → Option Value} {base : Heap}
theorem ok_Scanner (T : Tx K mg) {f : Addr} {fd : FuncData} (F : FunD K "__init__" "Scanner.__init__" (defArgs s_Scanner_init) (defBody s_Scanner_init) (defScope s_Scanner_init) [] [] f fd) : FnOk P w K mg base (L2.CX P w) 1 f fd ["self", "text"] (spD K (cScI K)) := by
  refine dfn 2 F sc_Scanner_init (fun ds S q e h => ?_) rfl (fun cdv A outer s H E e hr => ⟨_, (dss_cons (ds_fld rfl (fd_Scanner_text T) (dv (pv 0)) (dv (pv 1)))
  (dss_one (ds_fld rfl (fd_Scanner_place T) (dv (pv 0)) de_int))), fun ds S q h => ?_⟩)
  · obtain ⟨_, _, rfl, _⟩ := h
    rfl
  · obtain ⟨m, z, rfl, hm, h⟩ := h
    walk_at "go"
    simp only [sput_sput]
    exact h
theorem ok_here (T : Tx K mg) {f : Addr} {fd : FuncData} (F : FunD K "here" "Scanner.here" (defArgs s_Scanner_here) (defBody s_Scanner_here) (defScope s_Scanner_here) [.int 1] [] f fd) : FnOk P w K mg base (L2.CX P w) 1 f fd ["self", "many"] (spD K (cHere K)) := by
  refine dfn 2 F sc_Scanner_here (fun ds S q e h => ?_) rfl (fun cdv A outer s H E e hr => ⟨_, (dss_one (ds_ret (de_sl rfl (de_fld rfl (fd_Scanner_text T) (dv (pv 0))) (do_some (de_fld rfl (fd_Scanner_place T) (dv (pv 0)))) (do_some (de_op (od_add rfl) (de_fld rfl (fd_Scanner_place T) (dv (pv 0))) (dv (pv 1))))))), fun ds S q h => ?_⟩)
  · obtain ⟨_, _, _, _, rfl, _⟩ := h
    rfl
  · obtain ⟨sc, z, p, n, rfl, hm, h⟩ := h
    walk_at "go"
    exact h
theorem df_Scanner_here_1 {K : PySem.W.Frag} : Dfl K [.int 1] [.int 1] := fun G => ⟨_, _, rfl, rfl, rfl⟩
theorem ok_skip (T : Tx K mg) (m_Scanner_here_1 : MetX P w K mg base 1 (He.ga K "Scanner") "here" (spD K (cHere K)) [.int 1]) {f : Addr} {fd : FuncData} (F : FunD K "skip_blanks" "Scanner.skip_blanks" (defArgs s_Scanner_skip_blanks) (defBody s_Scanner_skip_blanks) (defScope s_Scanner_skip_blanks) [] [] f fd) : FnOk P w K mg base (L2.CX P w) 2 f fd ["self"] (spD K (cSkip K)) := by
  refine dfn 1 F sc_Scanner_skip_blanks (fun ds S q e h => ?_) rfl (fun cdv A outer s H E e hr => ⟨_, (dss_one (ds_while poX (PW.pt (dt_and (dt_cmp (od_ne rfl (hU_of hr)) (de_meth0 (nm := nm_Scanner) rfl m_Scanner_here_1 (by decide +kernel) (df_Scanner_here_1) hr (by decide) paX (dv (pv 0))) de_str) (pw_and1 (dt_cmp (od_in rfl (hW_of hr)) (de_meth0 (nm := nm_Scanner) rfl m_Scanner_here_1 (by decide +kernel) (df_Scanner_here_1) hr (by decide) paX (dv (pv 0))) de_str)))) (dss_one (ds_fldaug (K := K) rfl (fd_Scanner_place T) in_addD (dv (pv 0)) de_int)))), fun ds S q h => ?_⟩)
  · obtain ⟨_, _, _, rfl, _⟩ := h
    rfl
  · obtain ⟨sc, z, p, rfl, hm, h⟩ := h
    walk_at "go"
    refine ⟨fun m δ S' => ∃ p', m = z.length - p' ∧ skipP z p' = skipP z p ∧ δ = [some (.ref sc)] ∧ S' = sput S sc (scC K z p'), ⟨_, p, rfl, rfl, rfl, (sput_id hm).symm⟩, fun m δ S' hI => ?_⟩
    obtain ⟨p', rfl, es, rfl, rfl⟩ := hI
    walk_at "go"
    refine ⟨sc, z, p', 1, rfl, sput_same, ?_⟩
    walk_at "go"
    refine iftN (fun h0 => ?_) (fun h0 => ?_)
    · walk_at "go"
      refine ⟨sc, z, p', 1, rfl, sput_same, ?_⟩
      walk_at "go"
      refine ift_b (fun h1 => ?_) (fun h1 => ?_)
      · walk_at "go"
        rw [sput_sput]
        exact ⟨_, by have := here_lt h0; omega, p' + 1, rfl, by rw [← es]; exact (span_step h0 h1).symm, rfl, rfl⟩
      · walk_at "go"
        have e1 : skipP z p' = p' := span_stop fun z => by rw [show hasS blankS (hereS _ p' 1) = _ from h1] at z; cases z.2
        rw [← es, e1] at h
        exact h
    · walk_at "go"
      have e1 : skipP z p' = p' := span_stop fun z => z.1 h0
      rw [← es, e1] at h
      exact h
theorem ok_name (T : Tx K mg) (m_Scanner_here_1 : MetX P w K mg base 1 (He.ga K "Scanner") "here" (spD K (cHere K)) [.int 1]) {f : Addr} {fd : FuncData} (F : FunD K "read_name" "Scanner.read_name" (defArgs s_Scanner_read_name) (defBody s_Scanner_read_name) (defScope s_Scanner_read_name) [] [] f fd) : FnOk P w K mg base (L2.CX P w) 2 f fd ["self"] (spD K (cName K)) := by
  refine dfn 2 F sc_Scanner_read_name (fun ds S q e h => ?_) rfl (fun cdv A outer s H E e hr => ⟨_, (dss_cons (ds_set (i := 1) sc_Scanner_read_name.nd rfl (Or.inl rfl) (de_fld rfl (fd_Scanner_place T) (dv (pv 0))))
  (dss_cons (ds_while poX (PW.pt (dt_and (dt_cmp (od_ne rfl (hU_of hr)) (de_meth0 (nm := nm_Scanner) rfl m_Scanner_here_1 (by decide +kernel) (df_Scanner_here_1) hr (by decide) paX (dv (pv 0))) de_str) (pw_and1 (dt_cmp (od_in rfl (hW_of hr)) (de_meth0 (nm := nm_Scanner) rfl m_Scanner_here_1 (by decide +kernel) (df_Scanner_here_1) hr (by decide) paX (dv (pv 0))) (de_gcS rfl T.g_TAG_SIGNS))))) (dss_one (ds_fldaug (K := K) rfl (fd_Scanner_place T) in_addD (dv (pv 0)) de_int)))
  (dss_cons (ds_if (dt_cmp (od_eq rfl (hU_of hr)) (de_fld rfl (fd_Scanner_place T) (dv (pv 0))) (dv (pv 1))) (dss_one (dr_raise (C := He.ga K "MarkupError") PySem.F.excBase_ValueError T.x_MarkupError.1 T.g_MarkupError T.x_MarkupError.2.1 (raises_own T.x_MarkupError.2.2.1 T.x_MarkupError.2.2.2) rfl)) dss_nil)
  (dss_one (ds_ret (de_sl rfl (de_fld rfl (fd_Scanner_text T) (dv (pv 0))) (do_some (dv (pv 1))) (do_some (de_fld rfl (fd_Scanner_place T) (dv (pv 0)))))))))), fun ds S q h => ?_⟩)
  · obtain ⟨_, _, _, rfl, _⟩ := h
    rfl
  · obtain ⟨sc, z, p, rfl, hm, he, h⟩ := h
    have fin : ∀ p', nameP z p = p' → (p' = p → e (He.ga K "MarkupError") (sput S sc (scC K z p'))) ∧ (p' ≠ p → q (.str (cutS z (some (p : Int)) (some (p' : Int)))) (sput S sc (scC K z p'))) := fun p' e1 => by
      subst e1
      exact ⟨fun e2 => by rw [e2, sput_id hm]; exact he e2, h⟩
    walk_at "go"
    refine ⟨fun m δ S' => ∃ p', m = z.length - p' ∧ nameP z p' = nameP z p ∧ δ = [some (.ref sc), some (.int (p : Nat))] ∧ S' = sput S sc (scC K z p'), ⟨_, p, rfl, rfl, rfl, (sput_id hm).symm⟩, fun m δ S' hI => ?_⟩
    obtain ⟨p', rfl, es, rfl, rfl⟩ := hI
    walk_at "go"
    refine ⟨sc, z, p', 1, rfl, sput_same, ?_⟩
    walk_at "go"
    have stop : ¬ (hereS z p' 1 ≠ "" ∧ hasS tagS (hereS z p' 1) = true) → (p' = p → e (He.ga K "MarkupError") (sput S sc (scC K z p'))) ∧ (p' ≠ p → q (.str (cutS z (some (p : Int)) (some (p' : Int)))) (sput S sc (scC K z p'))) := fun n => fin p' (by rw [← es]; exact span_stop n)
    refine iftN (fun h0 => ?_) (fun h0 => ?_)
    · walk_at "go"
      refine ⟨sc, z, p', 1, rfl, sput_same, ?_⟩
      walk_at "go"
      refine ift_b (fun h1 => ?_) (fun h1 => ?_)
      · walk_at "go"
        rw [sput_sput]
        exact ⟨_, by have := here_lt h0; omega, p' + 1, rfl, by rw [← es]; exact (span_step h0 h1).symm, rfl, rfl⟩
      · obtain ⟨f1, f2⟩ := stop fun z => by rw [show hasS tagS (hereS _ p' 1) = _ from h1] at z; cases z.2
        walk_at "go"
        refine ift (fun h3 => ?_) (fun h3 => ?_)
        · walk_at "go"
          exact f1 (by omega)
        · walk_at "go"
          exact f2 (by omega)
    · obtain ⟨f1, f2⟩ := stop fun z => z.1 h0
      walk_at "go"
      refine ift (fun h3 => ?_) (fun h3 => ?_)
      · walk_at "go"
        exact f1 (by omega)
      · walk_at "go"
        exact f2 (by omega)
theorem ok_up (T : Tx K mg) {f : Addr} {fd : FuncData} (F : FunD K "up_to" "Scanner.up_to" (defArgs s_Scanner_up_to) (defBody s_Scanner_up_to) (defScope s_Scanner_up_to) [] [] f fd) : FnOk P w K mg base (L2.CX P w) 1 f fd ["self", "sign"] (spD K (cUp K)) := by
  refine dfn 4 F sc_Scanner_up_to (fun ds S q e h => ?_) rfl (fun cdv A outer s H E e hr => ⟨_, (dss_cons (ds_set (i := 2) sc_Scanner_up_to.nd rfl (Or.inl rfl) (de_bm rfl is_tx PySem.F.plainAttrs_str PySem.F.slot_str_find PySem.F.type_str_find md_find2 (de_fld rfl (fd_Scanner_text T) (dv (pv 0))) (da_cons (dv (pv 1)) (da_cons (de_fld rfl (fd_Scanner_place T) (dv (pv 0))) da_nil))))
  (dss_cons (ds_if (dt_cmp od_lt (dv (pv 2)) de_int) (dss_one (dr_raiseE (C := He.ga K "MarkupError") PySem.F.excBase_ValueError T.x_MarkupError.1 T.g_MarkupError T.x_MarkupError.2.1 (raises_own T.x_MarkupError.2.2.1 T.x_MarkupError.2.2.2) rfl (de_joined (.cons de_str (.cons (de_fmt (dv (pv 1))) .nil))))) dss_nil)
  (dss_cons (ds_set (i := 3) sc_Scanner_up_to.nd rfl (Or.inl rfl) (de_sl rfl (de_fld rfl (fd_Scanner_text T) (dv (pv 0))) (do_some (de_fld rfl (fd_Scanner_place T) (dv (pv 0)))) (do_some (dv (pv 2)))))
  (dss_cons (ds_fld rfl (fd_Scanner_place T) (dv (pv 0)) (de_op (od_add rfl) (dv (pv 2)) (de_callB (cd_len rfl) (by rfl) T.b_len (by decide +kernel) (da_cons (dv (pv 1)) da_nil))))
  (dss_one (ds_ret (dv (pv 3)))))))), fun ds S q h => ?_⟩)
  · obtain ⟨_, _, _, _, rfl, _⟩ := h
    rfl
  · obtain ⟨sc, z, p, sign, rfl, hm, hp, hs, he, h⟩ := h
    walk_at "go"
    refine ift (fun h0 => ?_) (fun h0 => ?_)
    · walk_at "go"
      refine ⟨Nat.le_of_lt (size6 (by rw [show (("" : Str) ++ "expected ").length = 9 from rfl]; omega)), ?_⟩
      walk_at "go"
      exact he (if_pos h0)
    · walk_at "go"
      have hh := h _ _ (if_neg h0)
      rw [show Txt.find3 z sign (p : Int) + (sign.length : Int) = (((Txt.find3 z sign (p : Int)).toNat + sign.length : Nat) : Int) by omega]
      exact hh
theorem ok_with (T : Tx K mg) (kd_ENTITIES : KdX K w (He.ga K "ENTITIES") entD) {f : Addr} {fd : FuncData} (F : FunD K "with_entities" "with_entities" (defArgs s_with_entities) (defBody s_with_entities) (defScope s_with_entities) [] [] f fd) : FnOk P w K mg base (L2.CX P w) 1 f fd ["text"] (spD K (cWith K)) := by
  refine dfn 5 F sc_with_entities (fun ds S q e h => ?_) rfl (fun cdv A outer s H E e hr => ⟨_, (dss_cons (ds_asg (de_tup (da_cons de_str (da_cons de_int da_nil))) (dg_tup (n := 2) rfl rfl (dgs_cons (dg_name (i := 1) sc_with_entities.nd rfl (Or.inl rfl)) (dgs_cons (dg_name (i := 2) sc_with_entities.nd rfl (Or.inl rfl)) dgs_nil))))
  (dss_cons (ds_while poX (dt_cmp od_lt (dv (pv 2)) (de_callB (cd_len rfl) (by rfl) T.b_len (by decide +kernel) (da_cons (dv (pv 0)) da_nil))) (dss_cons (ds_if (dt_cmp (od_ne rfl (hU_of hr)) (de_ix rfl (dv (pv 0)) (dv (pv 2))) de_str) (dss_cons (ds_aug (i := 1) sc_with_entities.nd rfl (Or.inl rfl) (de_ix rfl (dv (pv 0)) (dv (pv 2))) ip_addD)
  (dss_cons (ds_aug (i := 2) sc_with_entities.nd rfl (Or.inl rfl) de_int ip_addD)
  (dss_one ds_continue))) dss_nil)
  (dss_cons (ds_set (i := 3) sc_with_entities.nd rfl (Or.inl rfl) (de_bm rfl is_tx PySem.F.plainAttrs_str PySem.F.slot_str_find PySem.F.type_str_find md_find2 (dv (pv 0)) (da_cons de_str (da_cons (dv (pv 2)) da_nil))))
  (dss_cons (ds_set (i := 4) sc_with_entities.nd rfl (Or.inl rfl) (de_if (dt_cmp od_ge (dv (pv 3)) de_int) (de_sl rfl (dv (pv 0)) (do_some (de_op (od_add rfl) (dv (pv 2)) de_int)) (do_some (dv (pv 3)))) de_str))
  (dss_cons (ds_if (dt_cmp (od_notinK rfl kd_ENTITIES) (dv (pv 4)) (de_c (d := .ref _) (pe_glob (v := .ref _) rfl T.g_ENTITIES rfl) (fun _ => rfl))) (dss_one (dr_raise (C := He.ga K "MarkupError") PySem.F.excBase_ValueError T.x_MarkupError.1 T.g_MarkupError T.x_MarkupError.2.1 (raises_own T.x_MarkupError.2.2.1 T.x_MarkupError.2.2.2) rfl)) dss_nil)
  (dss_cons (ds_aug (i := 1) sc_with_entities.nd rfl (Or.inl rfl) (de_ixK rfl kd_ENTITIES (de_c (d := .ref _) (pe_glob (v := .ref _) rfl T.g_ENTITIES rfl) (fun _ => rfl)) (dv (pv 4))) ip_addD)
  (dss_one (ds_set (i := 2) sc_with_entities.nd rfl (Or.inl rfl) (de_op (od_add rfl) (dv (pv 3)) de_int)))))))))
  (dss_one (ds_ret (dv (pv 1)))))), fun ds S q h => ?_⟩)
  · obtain ⟨_, rfl, _⟩ := h
    rfl
  · obtain ⟨z, rfl, hz, he, h⟩ := h
    walk_at "go"
    have hzz : (z.length : Int) < 2 ^ 62 := by omega
    refine ⟨fun m δ S' => ∃ p' f u3 u4, m = z.length + 1 - p' ∧ p' ≤ z.length ∧ f.length ≤ p' ∧ weE z (z.length + 1 - p') p' f = withEnt z ∧ δ = [some (.str z), some (.str f), some (.int (p' : Nat)), u3, u4] ∧ S' = S, ⟨_, 0, "", none, none, rfl, Nat.zero_le _, Nat.le_refl _, rfl, rfl, rfl⟩, fun m δ S' hI => ?_⟩
    obtain ⟨p', f, u3, u4, rfl, hp, hf, es, rfl, rfl⟩ := hI
    walk_at "go"
    refine ift (fun h0 => ?_) (fun h0 => ?_)
    · have hlt : p' < z.length := by omega
      have hgt : z.cps.toList[p']? = some (z.cps.toList.getD p' 0) := by rw [List.getD_eq_getElem?_getD, List.getElem?_eq_getElem (by rw [Array.length_toList]; exact hlt)]; rfl
      have est : weE z (z.length + 1 - p') p' f = if charS z p' ≠ "&" then weE z (z.length - p') (p' + 1) (f ++ charS z p') else
        (aGet entS (entN z p')).bind fun s => weE z (z.length - p') ((Txt.find3 z ";" (p' : Int)).toNat + 1) (f ++ s) := by
          rw [show z.length + 1 - p' = (z.length - p') + 1 by omega]
          show (if p' < z.length then _ else _) = _
          rw [if_pos hlt]
      rw [est] at es
      walk_at "go"
      refine ⟨_, atI_nat hgt, ?_⟩
      walk_at "go"
      refine iftN (fun h1 => ?_) (fun h1 => ?_)
      · rw [if_pos (show charS z p' ≠ "&" from h1)] at es
        walk_at "go"
        refine ⟨_, atI_nat hgt, ?_⟩
        walk_at "go"
        refine ⟨Nat.le_of_lt (size6 (by show f.length + 1 ≤ _; omega)), ?_⟩
        walk_at "go"
        refine ⟨_, by omega, p' + 1, f ++ charS z p', u3, u4, rfl, hlt, by rw [app_len]; show f.length + 1 ≤ _; omega, ?_, rfl, rfl⟩
        rw [← es, show z.length + 1 - (p' + 1) = z.length - p' by omega]
      · rw [if_neg (show ¬ charS z p' ≠ "&" from fun n => n h1)] at es
        have fa := find_at z ";" p' hp
        walk_at "go"
        refine ift (fun h2 => ?_) (fun h2 => ?_)
        · obtain ⟨k, ek, kp, kz⟩ : ∃ k : Nat, Txt.find3 z ";" (p' : Int) = (k : Int) ∧ p' ≤ k ∧ k + (";" : Str).length ≤ z.length := by
            rcases fa with e | e
            · omega
            · exact e
          have kz : k + 1 ≤ z.length := kz
          have en : entN z p' = cutS z (some ((p' : Int) + 1)) (some (Txt.find3 z ";" (p' : Int))) := if_pos h2
          rw [en, ek] at es
          rw [ek]
          walk_at "go"
          rw [ent_get]
          cases hs : aGet entS (cutS z (some ((p' : Int) + 1)) (some (k : Int))) with
          | none =>
            rw [hs] at es
            walk_at "go"
            exact he es.symm
          | some s =>
            rw [hs] at es
            have es : weE z (z.length - p') (k + 1) (f ++ s) = withEnt z := es
            have sl : s.length = 1 := ent_len hs
            walk_at "go"
            refine ⟨rfl, .str s, by rw [ent_get, hs]; rfl, ?_⟩
            walk_at "go"
            refine ⟨_, by omega, k + 1, f ++ s, _, _, rfl, kz, by rw [app_len]; omega, ?_, rfl, rfl⟩
            rw [← es]
            exact weE_fuel (by omega) (by omega) (by omega)
        · have en : entN z p' = "" := if_neg h2
          rw [en] at es
          walk_at "go"
          rw [ent_get]
          walk_at "go"
          exact he es.symm
    · walk_at "go"
      rw [weE_end (by omega)] at es
      exact h _ es.symm
end
end K19

open PySem PySem.Spec PyProof.Rows L2 Pr Dn
namespace K19
open Mk
section
variable {K : PySem.W.Frag} {S0 S : Store} {tb sc dc dn op : Addr} {A : List Tri} {z : Str} {p : Nat} {m : PM}
theorem refs_app {A : List Tri} {r : Tri} {l : List Nat} (h : ∀ i ∈ l, i < A.length) : refsO (A ++ [r]) l = refsO A l := List.map_congr_left fun i hi => by rw [ad_app (h i hi)]
theorem par_app {A : List Tri} {r : Tri} {o : Option Nat} (h : ∀ i, o = some i → i < A.length) : parO (A ++ [r]) o = parO A o := by
  cases o with
  | none => rfl
  | some i => show Dt.ref _ = Dt.ref _; rw [ad_app (h i rfl)]
theorem Bld.push (h : Bld K S0 S tb sc dc dn op A z p m) (w : Wf m) {pa : Nat} (hp : pa < m.N.length) {a t c tp cp : Addr} {n : PN} {S' : Store} (hk : n.kids = []) (hA : A[pa]? = some (ad A pa, tp, cp))
    (fa : S a = none) (ft : S0 t = none) (dnt : dn ≠ t) (fc : S c = none)
    (e1 : S' a = some (nodeC K (m.N.length : Nat) (tagD n.tag) (.str n.text) t c (.ref (ad A pa)) (.str n.val) (.bl n.chk))) (e2 : S' t = some (.dic (dkD n.attrs))) (e3 : S' c = some (.lst []))
    (e4 : S' cp = some (.lst (refsO A (nod m pa).kids ++ [.ref a]))) (e5 : ∃ v, S' dc = some (docC K dn ((A.length : Int) + 1) [.ref (ad A 0), .int v])) (e6 : ∃ L, S' dn = some (.dic L) ∧ L = numD A ++ [((Sum.inl (A.length : Int) : Key), Dt.ref a)])
    (kp : ∀ x cell, S x = some cell → x ≠ dc → x ≠ dn → x ≠ cp → S' x = some cell) : Bld K S0 S' tb sc dc dn op (A ++ [(a, t, c)]) z p (pushF m pa n) := by
  obtain ⟨v, hdc⟩ := h.hdc
  obtain ⟨L, hdn, hL⟩ := h.hdn
  obtain ⟨_, _, hcp⟩ := h.nds pa _ _ _ _ (nod_get hp) hA
  have len := h.len
  have kpI : ∀ x C nm l, S x = some (.ins C nm l) → l.length ≠ 4 → S' x = some (.ins C nm l) := fun x C nm l hx hn => kp x _ hx (fun e => by
    rw [e, hdc] at hx
    injection hx with hx
    injection hx with _ _ hx
    exact hn (by rw [← hx]; rfl)) (fun e => by rw [e, hdn] at hx; cases hx) (fun e => by rw [e, hcp] at hx; cases hx)
  have f0 : ∀ x, S x = none → S0 x = none := fun x hx => by
    cases e : S0 x with
    | none => rfl
    | some c => rw [h.le x c e] at hx; cases hx
  have ncp : ∀ i a' t' c', A[i]? = some (a', t', c') → c' = cp → i = pa := fun i a' t' c' hi e => by
    have q1 : (A.map (·.2.2))[i]? = some cp := by rw [List.getElem?_map, hi, ← e]; rfl
    have q2 : (A.map (·.2.2))[pa]? = some cp := by rw [List.getElem?_map, hA]; rfl
    exact (List.getElem?_inj (List.getElem?_eq_some_iff.mp q1).1 h.chn).mp (q1.trans q2.symm)
  have hopcp : op ≠ cp := fun e => h.opc (List.mem_map.mpr ⟨_, List.mem_of_getElem? hA, e.symm⟩)
  have lt0 : ∀ {l : List Nat}, (∀ i ∈ l, i < m.N.length) → ∀ i ∈ l, i < A.length := fun hl i hi => by rw [len]; exact hl i hi
  obtain ⟨v', e5⟩ := e5
  obtain ⟨L', e6, eL⟩ := e6
  refine ⟨kpI _ _ _ _ h.htb (Nat.ne_of_beq_eq_false rfl), kpI _ _ _ _ h.hsc (Nat.ne_of_beq_eq_false rfl), ⟨v', ?_⟩, ⟨L', e6, by rw [numD_app]; exact eL⟩, ?_, by rw [List.length_append, List.length_singleton, push_len, len], fun i n' a' t' c' hn hA' => ?_, fun x cell hx => ?_, h.ftb, h.fsc, h.fdc, h.fdn, h.fop, fun r hr => ?_, fun hm => ?_, ?_, fun hm => ?_⟩
  · rw [ad_app (by rw [len]; exact w.zero), List.length_append, List.length_singleton]
    exact e5
  · show S' op = some (.lst (refsO (A ++ [(a, t, c)]) m.opn))
    rw [refs_app (lt0 w.lt)]
    exact kp _ _ h.hop (fun e => by have q := h.hop; rw [e, hdc] at q; cases q) (fun e => by have q := h.hop; rw [e, hdn] at q; cases q) hopcp
  · by_cases hi : i < m.N.length
    · rw [push_get hi] at hn
      injection hn with hn
      rw [List.getElem?_append_left (by rw [len]; exact hi)] at hA'
      obtain ⟨q1, q2, q3⟩ := h.nds i _ a' t' c' (nod_get hi) hA'
      have kd := w.kd _ (nod_mem hi)
      have pr := w.pr _ (nod_mem hi)
      have r2 : S' t' = some (.dic (dkD (nod m i).attrs)) := kp _ _ q2 (fun e => by rw [e, hdc] at q2; cases q2) (fun e => h.dna (List.mem_map.mpr ⟨_, List.mem_of_getElem? hA', e⟩)) (fun e => by rw [e, hcp] at q2; cases q2)
      have r1 := kpI _ _ _ _ q1 (Nat.ne_of_beq_eq_false rfl)
      have ep : parO (A ++ [(a, t, c)]) (nod m i).par = parO A (nod m i).par := par_app fun k hk => by rw [len]; exact pr k hk
      by_cases hip : i = pa
      · subst hip
        rw [if_pos rfl] at hn
        subst hn
        have hc : c' = cp := by
          rw [hA] at hA'
          injection hA' with hA'
          injection hA' with _ hA'
          injection hA' with _ hA'
          exact hA'.symm
        subst hc
        refine ⟨by rw [show ({ nod m i with kids := (nod m i).kids ++ [m.N.length] } : PN).par = (nod m i).par from rfl, ep]; exact r1, r2, ?_⟩
        show S' c' = some (.lst (refsO (A ++ [(a, t, c)]) ((nod m i).kids ++ [m.N.length])))
        rw [show refsO (A ++ [(a, t, c)]) ((nod m i).kids ++ [m.N.length]) = refsO A (nod m i).kids ++ [.ref a] from (by
          rw [show refsO (A ++ [(a, t, c)]) ((nod m i).kids ++ [m.N.length]) = refsO (A ++ [(a, t, c)]) (nod m i).kids ++ [.ref (ad (A ++ [(a, t, c)]) m.N.length)] from List.map_append, refs_app (lt0 kd.2), ← len, ad_at (show (A ++ [(a, t, c)])[A.length]? = some (a, t, c) by rw [List.getElem?_append_right (Nat.le_refl _), Nat.sub_self]; rfl)])]
        exact e4
      · rw [if_neg hip] at hn
        subst hn
        refine ⟨by rw [ep]; exact r1, r2, ?_⟩
        rw [refs_app (lt0 kd.2)]
        exact kp _ _ q3 (fun e => by rw [e, hdc] at q3; cases q3) (fun e => by rw [e, hdn] at q3; cases q3) (fun e => hip (ncp i a' t' c' hA' e))
    · have hl := (List.getElem?_eq_some_iff.mp hn).1
      rw [push_len] at hl
      have e : i = m.N.length := by omega
      subst e
      rw [push_new] at hn
      injection hn with hn
      rw [List.getElem?_append_right (by rw [len]; exact Nat.le_refl _), len, Nat.sub_self] at hA'
      have hA' : (a, t, c) = (a', t', c') := by simpa using hA'
      injection hA' with h1 h2
      injection h2 with h2 h3
      subst h1; subst h2; subst h3; subst hn
      refine ⟨?_, e2, ?_⟩
      · show S' a = some (nodeC K _ _ _ t c (.ref (ad (A ++ [(a, t, c)]) pa)) _ _)
        rw [ad_app (by rw [len]; exact hp)]
        exact e1
      · show S' c = some (.lst (refsO (A ++ [(a, t, c)]) n.kids))
        rw [hk]
        exact e3
  · have hs := h.le x cell hx
    exact kp x cell hs (fun e => by rw [e, h.fdc] at hx; cases hx) (fun e => by rw [e, h.fdn] at hx; cases hx) (fun e => by rw [e, (h.fA _ (List.mem_of_getElem? hA)).2.2] at hx; cases hx)
  · rcases List.mem_append.mp hr with hr | hr
    · exact h.fA r hr
    · rw [List.mem_singleton.mp hr]
      exact ⟨f0 a fa, ft, f0 c fc⟩
  · rw [List.map_append] at hm
    rcases List.mem_append.mp hm with hm | hm
    · exact h.opc hm
    · have e : op = c := List.mem_singleton.mp hm
      have q := h.hop
      rw [e, fc] at q
      cases q
  · rw [List.map_append]
    refine List.nodup_append.mpr ⟨h.chn, by simp, fun x hx y hy e => ?_⟩
    have hy : y = c := List.mem_singleton.mp hy
    obtain ⟨⟨a', t', c'⟩, hr, e'⟩ := List.mem_map.mp hx
    obtain ⟨i, hi⟩ := List.getElem?_of_mem hr
    have hl : i < m.N.length := by rw [← len]; exact (List.getElem?_eq_some_iff.mp hi).1
    obtain ⟨_, _, q3⟩ := h.nds i _ a' t' c' (nod_get hl) hi
    rw [show c' = c from e'.trans (e.trans hy), fc] at q3
    cases q3
  · rw [List.map_append] at hm
    rcases List.mem_append.mp hm with hm | hm
    · exact h.dna hm
    · exact dnt (List.mem_singleton.mp hm)
theorem Bld.place (h : Bld K S0 S tb sc dc dn op A z p m) (w : Wf m) {pa : Nat} (hp : pa < m.N.length) {tp : Str} (htag : (nod m pa).tag = some tp) (hv : tp ∉ voids) {l : List Nat} (u : Up K S (ad A pa) (l.map (ad A))) (ul : l.length ≤ 98) (ux : ∀ x ∈ l, x < m.N.length) (hN : m.N.length ≤ 1000000)
    {a t c : Addr} {n : PN} (hk : n.kids = []) {S1 : Store} (fa : S a = none) (ft : S0 t = none) (dnt : dn ≠ t) (fc : S c = none)
    (e1 : S1 a = some (nodeC K (m.N.length : Nat) (tagD n.tag) (.str n.text) t c .non (.str n.val) (.bl n.chk))) (e2 : S1 t = some (.dic (dkD n.attrs))) (e3 : S1 c = some (.lst []))
    (e5 : ∃ v, S1 dc = some (docC K dn ((A.length : Int) + 1) [.ref (ad A 0), .int v])) (e6 : ∃ L, S1 dn = some (.dic L) ∧ L = numD A ++ [((Sum.inl (A.length : Int) : Key), Dt.ref a)])
    (kp : ∀ x cell, S x = some cell → x ≠ dc → x ≠ dn → S1 x = some cell) {go : Store → Prop} (hgo : ∀ S2, Bld K S0 S2 tb sc dc dn op (A ++ [(a, t, c)]) z p (pushF m pa n) → go S2) : PlP K dc (ad A pa) a S1 go := by
  obtain ⟨v, hdc⟩ := h.hdc
  obtain ⟨L, hdn, hL⟩ := h.hdn
  obtain ⟨v1, e5⟩ := e5
  obtain ⟨L1, e6, eL⟩ := e6
  have nodeK : ∀ x k' tag' tx' at' ch' p' v' c', S x = some (nodeC K k' tag' tx' at' ch' p' v' c') → S1 x = some (nodeC K k' tag' tx' at' ch' p' v' c') := fun x k' tag' tx' at' ch' p' v' c' hx => kp x _ hx (fun e => by
    rw [e, hdc] at hx
    injection hx with hx
    injection hx with _ _ hx
    exact absurd (congrArg List.length hx) (Nat.ne_of_beq_eq_false rfl)) (fun e => by rw [e, hdn] at hx; cases hx)
  obtain ⟨t0, c0, hA, q1, q2, q3⟩ := h.at hp
  rw [htag] at q1
  have kd := w.kd _ (nod_mem hp)
  have c01 : S1 c0 = _ := kp _ _ q3 (fun e => by rw [e, hdc] at q3; cases q3) (fun e => by rw [e, hdn] at q3; cases q3)
  have u1 : Up K S1 (ad A pa) (l.map (ad A)) := u.le fun b hb cell hc => by
    obtain ⟨x, hx, rfl⟩ := List.mem_map.mp hb
    obtain ⟨_, _, _, g1, _⟩ := h.at (ux x hx)
    rw [g1] at hc
    injection hc with hc
    rw [← hc]
    exact nodeK _ _ _ _ _ _ _ _ _ g1
  refine ⟨_, tp, _, t0, c0, _, _, _, _, _, _, t, c, _, _, _, l.map (ad A), dn, _, _, v1, nodeK _ _ _ _ _ _ _ _ _ q1, hv, u1, by rw [List.length_map]; exact ul, fun x hx k' tag' tx' at' ch' par' v' c' e => ?_, e1, ?_, e3, c01, ?_, e5, fun S2 g1 g2 g3 g4 => ?_⟩
  · obtain ⟨i, hi, rfl⟩ := List.mem_map.mp hx
    have hl := ux i hi
    obtain ⟨_, _, _, g1, _⟩ := h.at hl
    rw [nodeK _ _ _ _ _ _ _ _ _ g1] at e
    injection e with e
    injection e with _ _ e
    injection e with e _
    injection e with e
    omega
  · have := w.zero
    omega
  · rw [List.length_map]
    exact Nat.le_trans kd.1 hN
  · have na : ∀ x cell, S x = some cell → x ≠ a := fun x cell hx e => by rw [e, fa] at hx; cases hx
    refine hgo S2 (h.push w hp hk hA fa ft dnt fc g1 (g4 t _ (fun e => by rw [e, e1] at e2; cases e2) (fun e => by rw [e, c01] at e2; cases e2) (fun e => by rw [e, e5] at e2; cases e2) e2) (g4 c _ (fun e => by rw [e, e1] at e3; cases e3) (fun e => by rw [e, q3] at fc; cases fc) (fun e => by rw [e, e5] at e3; cases e3) e3) g2 ⟨_, g3⟩ ⟨L1, g4 dn _ (na _ _ hdn) (fun e => by rw [e, q3] at hdn; cases hdn) (fun e => by rw [e, hdc] at hdn; cases hdn) e6, eL⟩ fun x cell hx n1 n2 n3 => g4 x cell (na x cell hx) n3 n1 (kp x cell hx n1 n2))
end
end K19

open PySem PySem.Spec PyProof.Rows L2 Pr Dn LamX

namespace K19
open Mk
theorem dk_get {fd : List (Str × Str)} {k : Str} : kGet (dkD fd) (Sum.inr k : Key) = (aGet fd k).map Dt.str := by
  unfold kGet aGet dkD
  induction fd with
  | nil => rfl
  | cons a f ih =>
    rw [List.map_cons, List.find?_cons, List.find?_cons]
    by_cases h : a.1 = k
    · simp [h]
    · have : ¬ ((Sum.inr a.1 : Key) = Sum.inr k) := fun z => h (Sum.inr.inj z)
      rw [decide_eq_false this, decide_eq_false h]
      exact ih
def cAttr (K : PySem.W.Frag) : DSp := fun ds S q _ => ∃ a nm k tag tx t c par vl ck fd, ds = [.ref a, .str nm] ∧ S a = some (nodeC K k tag tx t c par vl ck) ∧ S t = some (.dic (dkD fd)) ∧ q (oS (aGet fd nm)) S
def cState (K : PySem.W.Frag) : DSp := fun ds S q _ => ∃ a k tag tx t c par vl ck fd, ds = [.ref a] ∧ S a = some (nodeC K k tag tx t c par vl ck) ∧ S t = some (.dic (dkD fd)) ∧ q .non (sput S a (nodeC K k tag tx t c par (.str ((aGet fd "value").getD "")) (.bl (aGet fd "checked").isSome)))
def cTB (K : PySem.W.Frag) : DSp := fun ds S q _ => ∃ tb z S0, ds = [.ref tb, .str z] ∧ S tb = some (.ins (He.ga K "TreeBuilder") nm_TreeBuilder []) ∧ S0 tb = none ∧ Le S0 S ∧ ∀ S' sc dc dn op A, Bld K S0 S' tb sc dc dn op A z 0 rootM → q .non S'
section
variable {P : Program} {w : World} {K : PySem.W.Frag} {mg : Str → Option Value} {base : Heap}
theorem ok_attribute (T : Tx K mg) {f : Addr} {fd : FuncData} (F : FunD K "attribute" "Node.attribute" (defArgs s_Node_attribute) (defBody s_Node_attribute) (defScope s_Node_attribute) [] [] f fd) : FnOk P w K mg base (L2.CX P w) 1 f fd ["self", "name"] (spD K (cAttr K)) := by
  refine dfn 2 F sc_Node_attribute (fun ds S q e h => ?_) rfl (fun cdv A outer s H E e hr => ⟨_, (dss_one (ds_ret (de_dget1 (hu_of hr) (de_fld rfl (fd_Node_attributes T) (dv (pv 0))) (dv (pv 1)) ⟨by rfl, by rfl, by rfl, by rfl⟩))), fun ds S q h => ?_⟩)
  · obtain ⟨_, _, _, _, _, _, _, _, _, _, _, rfl, _⟩ := h
    rfl
  · obtain ⟨a, nm, k, tag, tx, t, c, par, vl, ck, fd', rfl, ha, ht, h⟩ := h
    walk_at "go"
    rw [dk_get]
    cases hg : aGet fd' nm with
    | none => rw [hg] at h; exact h
    | some v => rw [hg] at h; exact h
set_option hygiene false in
local macro_rules | `(tactic| walk_at "ck") => `(tactic| (
  walk_at "go"
  refine ⟨a, "checked", k, tag, tx, t, c, par, _, ck, fd', rfl, sput_same, (by rw [sput_ne nta]; exact ht), ?_⟩
  cases hc : aGet fd' "checked" with
  | none =>
    rw [hc] at h
    walk_at "go"
    rw [sput_sput]
    exact h
  | some y =>
    rw [hc] at h
    walk_at "go"
    rw [sput_sput]
    exact h))
theorem ok_state (T : Tx K mg) (m_Node_attribute : MetX P w K mg base 1 (He.ga K "Node") "attribute" (spD K (cAttr K)) []) {f : Addr} {fd : FuncData} (F : FunD K "start_state" "start_state" (defArgs s_start_state) (defBody s_start_state) (defScope s_start_state) [] [] f fd) : FnOk P w K mg base (L2.CX P w) 2 f fd ["node"] (spD K (cState K)) := by
  refine dfn 1 F sc_start_state (fun ds S q e h => ?_) rfl (fun cdv A outer s H E e hr => ⟨_, (dss_cons (ds_fld rfl (fd_Node_value T) (dv (pv 0)) (de_or rfl (de_meth (nm := nm_Node) rfl m_Node_attribute (by decide +kernel) dfl_nil hr (by decide) paX (dv (pv 0)) (da_cons de_str da_nil)) (pe_one de_str)))
  (dss_one (ds_fld rfl (fd_Node_checked T) (dv (pv 0)) (de_cmp od_isNot (de_meth (nm := nm_Node) rfl m_Node_attribute (by decide +kernel) dfl_nil hr (by decide) paX (dv (pv 0)) (da_cons de_str da_nil)) de_non)))), fun ds S q h => ?_⟩)
  · obtain ⟨_, _, _, _, _, _, _, _, _, _, rfl, _⟩ := h
    rfl
  · obtain ⟨a, k, tag, tx, t, c, par, vl, ck, fd', rfl, ha, ht, h⟩ := h
    have nta : t ≠ a := fun z => by rw [z, ha] at ht; cases ht
    walk_at "go"
    refine ⟨a, "value", k, tag, tx, t, c, par, vl, ck, fd', rfl, ha, ht, ?_⟩
    cases hv : aGet fd' "value" with
    | none =>
      rw [hv] at h
      walk_at "ck"
    | some v =>
      rw [hv] at h
      walk_at "go"
      refine iftN (fun h0 => ?_) (fun h0 => ?_)
      · walk_at "ck"
      · subst h0
        walk_at "ck"
theorem ok_tb (T : Tx K mg) (k_Scanner : MakX P w K mg base 1 "Scanner" (He.ga K "Scanner") (spD K (cScI K)) []) (k_Document : MakX P w K mg base 4 "Document" (He.ga K "Document") (spD K (cDoc K)) []) {f : Addr} {fd : FuncData} (F : FunD K "__init__" "TreeBuilder.__init__" (defArgs s_TreeBuilder_init) (defBody s_TreeBuilder_init) (defScope s_TreeBuilder_init) [] [] f fd) : FnOk P w K mg base (L2.CX P w) 6 f fd ["self", "text"] (spD K (cTB K)) := by
  refine dfn 2 F sc_TreeBuilder_init (fun ds S q e h => ?_) rfl (fun cdv A outer s H E e hr => ⟨_, (dss_cons (ds_fld rfl (fd_TreeBuilder_scanner T) (dv (pv 0)) (de_make (nm := nm_Scanner) rfl k_Scanner dfl_nil hr (by decide) rfl paX (da_cons (dv (pv 1)) da_nil)))
  (dss_cons (ds_fld rfl (fd_TreeBuilder_document T) (dv (pv 0)) (de_make0 (nm := nm_Document) rfl k_Document dfl_nil hr (by decide) rfl paX))
  (dss_one (ds_fld rfl (fd_TreeBuilder_open_nodes T) (dv (pv 0)) (de_lstO (da_cons (de_fld rfl (fd_Document_root T) (de_fld rfl (fd_TreeBuilder_document T) (dv (pv 0)))) da_nil)))))), fun ds S q h => ?_⟩)
  · obtain ⟨_, _, _, rfl, _⟩ := h
    rfl
  · obtain ⟨tb, z, S0, rfl, htb, f0, le0, h⟩ := h
    have ntb : ∀ x c, S0 x = some c → x ≠ tb := fun x c hx e => by rw [e, f0] at hx; cases hx
    have f1 : ∀ {S1 : Store}, Le S0 S1 → ∀ {x : Addr}, S1 x = none → S0 x = none := fun {S1} le {x} hx => by
      cases e : S0 x with
      | none => rfl
      | some c => rw [le x c e] at hx; cases hx
    walk_at "go"
    intro sc hsc
    have nst : sc ≠ tb := fun e => by rw [e, htb] at hsc; cases hsc
    refine ⟨sc, z, rfl, sput_same, ⟨rfl, ?_⟩⟩
    rw [sput_sput]
    walk_at "go"
    intro dc hdc
    obtain ⟨ndt, hdc⟩ := sput_free hdc
    obtain ⟨nds, hdc⟩ := sput_free hdc
    refine ⟨dc, rfl, sput_same, fun dn m at_ ch L S1 hdn hm hch hat nda h0 h1 h2 hL h3 h4 le1 => ⟨rfl, ?_⟩⟩
    obtain ⟨_, hdn⟩ := sput_free hdn
    obtain ⟨ndnt, hdn⟩ := sput_free hdn
    obtain ⟨_, hdn⟩ := sput_free hdn
    obtain ⟨_, hm⟩ := sput_free hm
    obtain ⟨nmt, hm⟩ := sput_free hm
    obtain ⟨_, hm⟩ := sput_free hm
    obtain ⟨_, hch⟩ := sput_free hch
    obtain ⟨nct, hch⟩ := sput_free hch
    obtain ⟨_, hch⟩ := sput_free hch
    obtain ⟨_, hat⟩ := sput_free hat
    obtain ⟨nat, hat⟩ := sput_free hat
    obtain ⟨_, hat⟩ := sput_free hat
    have htb1 : S1 tb = some (.ins (He.ga K "TreeBuilder") nm_TreeBuilder [.ref sc]) := le1 tb _ ndt.symm (by rw [sput_ne ndt.symm, sput_same])
    have hsc1 : S1 sc = some (scC K z 0) := le1 sc _ nds.symm (by rw [sput_ne nds.symm, sput_ne nst, sput_same])
    have le2 : ∀ x c, S0 x = some c → S1 x = some c := fun x c hx => le1 x c (fun e => by rw [e, f1 le0 hdc] at hx; cases hx) (by rw [sput_ne (fun e => by rw [e, f1 le0 hdc] at hx; cases hx), sput_ne (ntb x c hx), sput_ne (fun e => by rw [e, f1 le0 hsc] at hx; cases hx)]; exact le0 x c hx)
    walk_at "go"
    intro op hop
    obtain ⟨not_, hop⟩ := sput_free hop
    have nop : ∀ x c, S1 x = some c → x ≠ op := fun x c hx e => by rw [e, hop] at hx; cases hx
    walk_at "go"
    refine h _ sc dc dn op [(m, at_, ch)] ?_
    refine ⟨sput_same, by rw [sput_ne nst, sput_ne (nop _ _ hsc1), sput_ne nst]; exact hsc1, ⟨0, by rw [sput_ne ndt, sput_ne (nop _ _ h1), sput_ne ndt]; exact h1⟩, ⟨L, by rw [sput_ne ndnt, sput_ne (nop _ _ h2), sput_ne ndnt]; exact h2, hL⟩, by rw [sput_ne not_, sput_same]; rfl, rfl, fun i n a t c hn hA => ?_, fun x c hx => ?_, f0, f1 le0 hsc, f1 le0 hdc, f1 le0 hdn, f1 (fun x c hx => le2 x c hx) hop, fun r hr => ?_, fun hm => ?_, by simp, fun hm => nda (List.mem_singleton.mp hm)⟩
    · have hi : i = 0 := by
        have := (List.getElem?_eq_some_iff.mp hA).1
        rw [List.length_singleton] at this
        omega
      subst hi
      have hn : _ = n := Option.some.inj hn
      have hA : (m, at_, ch) = (a, t, c) := Option.some.inj hA
      injection hA with e1 e2
      injection e2 with e2 e3
      subst e1; subst e2; subst e3; subst hn
      exact ⟨by rw [sput_ne nmt, sput_ne (nop _ _ h3), sput_ne nmt]; exact h3, by rw [sput_ne nat, sput_ne (nop _ _ h0), sput_ne nat]; exact h0, by rw [sput_ne nct, sput_ne (nop _ _ h4), sput_ne nct]; exact h4⟩
    · have := le2 x c hx
      rw [sput_ne (ntb x c hx), sput_ne (nop x c this), sput_ne (ntb x c hx)]
      exact this
    · rw [List.mem_singleton.mp hr]
      exact ⟨f1 le0 hm, f1 le0 hat, f1 le0 hch⟩
    · have e : op = ch := List.mem_singleton.mp hm
      exact nop _ _ h4 e.symm
end
end K19

open PySem PySem.Spec PyProof.Rows L2 Pr Dn LamX

namespace K19
open Mk
/-- what a method of the builder is given -/
structure Bs (K : PySem.W.Frag) (S0 S : Store) (tb sc dc dn op : Addr) (A : List Tri) (z : Str) (p : Nat) (m : PM) : Prop where
  b : Bld K S0 S tb sc dc dn op A z p m
  w : Wf m
  n1 : m.N.length ≤ p + 1
  pz : p ≤ z.length
  zl : z.length ≤ 900000
def cStep (K : PySem.W.Frag) (F : Str → Nat → PM → Option (Nat × PM)) : DSp := fun ds S q e => ∃ S0 tb sc dc dn op A z p m, ds = [.ref tb] ∧ Bs K S0 S tb sc dc dn op A z p m ∧ S0 (He.cT K ("Document", some "place_before")).2 = some .gtb ∧ (F z p m = none → ∀ S', Le S0 S' → e (He.ga K "MarkupError") S') ∧ ∀ p' m', F z p m = some (p', m') → ∀ S' op' A', Bld K S0 S' tb sc dc dn op' A' z p' m' → q .non S'
theorem atI_last {l : List Dt} {x : Dt} (h : l[l.length - 1]? = some x) (h0 : 0 < l.length) : atI l (-1) = some x := by
  unfold atI
  rw [show ixN l.length (-1) = some (l.length - 1) by
    unfold ixN
    simp
    omega]
  exact h
theorem cut_len {z : Str} {i j : Nat} (h : i ≤ j) : (cutS z (some (i : Int)) (some (j : Int))).length ≤ z.length := by
  rw [cut_nat h]
  show ((z.cps.toList.drop i).take (j - i)).toArray.size ≤ z.length
  rw [List.size_toArray, List.length_take, List.length_drop, Array.length_toList]
  have hz : z.cps.size = z.length := rfl
  omega
theorem Bld.last {K : PySem.W.Frag} {S0 S : Store} {tb sc dc dn op : Addr} {A : List Tri} {z : Str} {p : Nat} {m : PM} (h : Bld K S0 S tb sc dc dn op A z p m) (w : Wf m) : atI (refsO A m.opn) (-1) = some (.ref (ad A (lastO m))) ∧ ∃ t, (nod m (lastO m)).tag = some t ∧ tagOf m (lastO m) = t ∧ t ∉ voids := by
  refine ⟨atI_last (by rw [List.length_map, List.getElem?_map, w.last.1]; rfl) (by rw [List.length_map]; exact w.last.2), ?_⟩
  obtain ⟨t, ht, hv⟩ := w.tg _ w.lastM
  exact ⟨t, ht, by unfold tagOf; rw [ht]; rfl, hv⟩
theorem Bld.f0 {K : PySem.W.Frag} {S0 S : Store} {tb sc dc dn op : Addr} {A : List Tri} {z : Str} {p : Nat} {m : PM} (h : Bld K S0 S tb sc dc dn op A z p m) {x : Addr} (hx : S x = none) : S0 x = none := by
  cases e : S0 x with
  | none => rfl
  | some c => rw [h.le x c e] at hx; cases hx
theorem endT_le {z : Str} {p : Nat} (hp : p ≤ z.length) : p ≤ endT z p ∧ endT z p ≤ z.length := by
  unfold endT
  split
  · exact ⟨hp, Nat.le_refl _⟩
  · rcases find_at z "<" p hp with e | ⟨k, e, h1, h2⟩
    · omega
    · rw [e, Int.toNat_natCast]
      omega
section
variable {P : Program} {w : World} {K : PySem.W.Frag} {mg : Str → Option Value} {base : Heap}
set_option hygiene false in
local macro_rules | `(tactic| walk_at "ap") => `(tactic| (
  walk_at "go"
  refine ⟨_, b1.last bs.w |>.1, ?_⟩
  walk_at "go"
  refine ⟨dc, dn, _, _, L, _, _, rfl, hdc1, hdn1, by rw [congrArg List.length hL, numD_len, b1.len]; have := bs.n1; have := bs.pz; have := bs.zl; omega, fun a t c S2 fa fc nca ft nta ntc e2 e1 e3 e5 e6 kp => ?_⟩
  walk_at "go"
  obtain ⟨l, u, ll, ux⟩ := b1.up bs.w (m.opn.length - 1) (lastO m) bs.w.last.1
  have mx := bs.w.mx
  have zl := bs.zl
  have n1 := bs.n1
  have pz := bs.pz
  refine ⟨dc, _, a, rfl, kp _ _ (fun z => by rw [z, b1.fdc] at hT0; cases hT0) (fun z => by rw [z, b1.fdn] at hT0; cases hT0) (b1.le _ _ hT0), b1.place bs.w (bs.w.lt _ bs.w.lastM) htl hvl u (by omega) ux (by omega) (n := textN tx) rfl fa (b1.f0 ft) (fun z => by rw [← z, hdn1] at ft; cases ft) fc (by rw [← b1.len]; exact e1) e2 e3 ⟨v, e5⟩ ⟨_, e6, numD_put hL⟩ (fun x cell hx n1 n2 => kp x cell n1 n2 hx) fun S3 b3 => ?_⟩
  exact hh S3 op _ b3))
set_option hygiene false in
local macro_rules | `(tactic| walk_at "tx") => `(tactic| (
  have el : p ≤ endT z p ∧ endT z p ≤ z.length := endT_le bs.pz
  refine ⟨_, rfl, Nat.le_trans (cut_len el.1) (by have := bs.zl; omega), fun hw => he (by unfold textF; rw [hw]; rfl) S b.le, fun tx ht => ?_⟩
  have hh := h (endT z p) _ (by unfold textF; rw [ht]; rfl)
  have b1 := b.scan (endT z p)
  walk_at "go"
  generalize sput S sc (scC K z (endT z p)) = S1 at b1 ⊢
  have hop1 := b1.hop
  have htb1 := b1.htb
  obtain ⟨v, hdc1⟩ := b1.hdc
  obtain ⟨L, hdn1, hL⟩ := b1.hdn
  obtain ⟨tl, htl, htg, hvl⟩ := (b1.last bs.w).2
  obtain ⟨tt, ct, hAt, hlt, _⟩ := b1.at (bs.w.lt _ bs.w.lastM)
  rw [htl, show tagD (some tl) = .str tl from rfl] at hlt
  refine iftN (fun h1 => ?_) (fun h1 => ?_)
  · rw [if_pos (.inl h1)] at hh
    walk_at "ap"
  · walk_at "go"
    refine ⟨_, b1.last bs.w |>.1, ?_⟩
    walk_at "go"
    refine nin_tup blocksL rfl ?_
    walk_at "go"
    refine iftN (fun h2 => ?_) (fun h2 => ?_)
    · rw [if_pos (.inr (by rw [htg]; exact h2))] at hh
      walk_at "ap"
    · rw [if_neg (fun z => z.elim (fun z => z h1) (fun z => z (by rw [htg]; exact h2)))] at hh
      walk_at "go"
      exact hh S1 op A b1))
theorem ok_text_run (T : Tx K mg) (c_with_entities : CalX P w K mg base 1 "with_entities" (spD K (cWith K)) []) (m_Document_make : MetX P w K mg base 3 (He.ga K "Document") "make" (spD K (cMake K)) []) (m_Document_append : MetX P w K mg base 6 (He.ga K "Document") "append" (spD K (cAppend K)) [])
    {f : Addr} {fd : FuncData} (F : FunD K "text_run" "TreeBuilder.text_run" (defArgs s_TreeBuilder_text_run) (defBody s_TreeBuilder_text_run) (defScope s_TreeBuilder_text_run) [] [] f fd) : FnOk P w K mg base (L2.CX P w) 8 f fd ["self"] (spD K (cStep K textF)) := by
  refine dfn 3 F sc_TreeBuilder_text_run (fun ds S q e h => ?_) rfl (fun cdv A0 outer s H E e hr => ⟨_, (dss_cons (ds_set (i := 1) sc_TreeBuilder_text_run.nd rfl (Or.inl rfl) (de_bm rfl is_tx PySem.F.plainAttrs_str PySem.F.slot_str_find PySem.F.type_str_find md_find2 (de_fld rfl (fd_Scanner_text T) (de_fld rfl (fd_TreeBuilder_scanner T) (dv (pv 0)))) (da_cons de_str (da_cons (de_fld rfl (fd_Scanner_place T) (de_fld rfl (fd_TreeBuilder_scanner T) (dv (pv 0)))) da_nil))))
  (dss_cons (ds_set (i := 1) sc_TreeBuilder_text_run.nd rfl (Or.inl rfl) (de_if (dt_cmp od_lt (dv (pv 1)) de_int) (de_callB (cd_len rfl) (by rfl) T.b_len (by decide +kernel) (da_cons (de_fld rfl (fd_Scanner_text T) (de_fld rfl (fd_TreeBuilder_scanner T) (dv (pv 0)))) da_nil)) (dv (pv 1))))
  (dss_cons (ds_set (i := 2) sc_TreeBuilder_text_run.nd rfl (Or.inl rfl) (de_call rfl c_with_entities dfl_nil hr (by decide) rfl paX (da_cons (de_sl rfl (de_fld rfl (fd_Scanner_text T) (de_fld rfl (fd_TreeBuilder_scanner T) (dv (pv 0)))) (do_some (de_fld rfl (fd_Scanner_place T) (de_fld rfl (fd_TreeBuilder_scanner T) (dv (pv 0))))) (do_some (dv (pv 1)))) da_nil)))
  (dss_cons (ds_fld rfl (fd_Scanner_place T) (de_fld rfl (fd_TreeBuilder_scanner T) (dv (pv 0))) (dv (pv 1)))
  (dss_one (ds_if (PW.pt (dt_or (dt_cmp (od_ne rfl (hU_of hr)) (de_bm rfl is_tx PySem.F.plainAttrs_str PySem.F.slot_str_strip PySem.F.type_str_strip md_strip1 (dv (pv 2)) (da_cons de_str da_nil)) de_str) (pw_or1 (dt_cmp (od_notin rfl (hW_of hr)) (de_fld rfl (fd_Node_tag T) (de_ix rfl (de_fld rfl (fd_TreeBuilder_open_nodes T) (dv (pv 0))) (de_neg de_int))) (de_gcT rfl T.g_BLOCKS (rep_tup T.t_BLOCKS)))))) (dss_one (ds_expr (de_meth (nm := nm_Document) rfl m_Document_append (by decide +kernel) dfl_nil hr (by decide) paX (de_fld rfl (fd_TreeBuilder_document T) (dv (pv 0))) (da_cons (de_ix rfl (de_fld rfl (fd_TreeBuilder_open_nodes T) (dv (pv 0))) (de_neg de_int)) (da_cons (de_meth (nm := nm_Document) rfl m_Document_make (by decide +kernel) dfl_nil hr (by decide) paX (de_fld rfl (fd_TreeBuilder_document T) (dv (pv 0))) (da_cons de_non (da_cons (dv (pv 2)) da_nil))) da_nil))))) dss_nil)))))), fun ds S q h => ?_⟩)
  · obtain ⟨_, _, _, _, _, _, _, _, _, _, rfl, _⟩ := h
    rfl
  · obtain ⟨S0, tb, sc, dc, dn, op, A, z, p, m, rfl, bs, hT0, he, h⟩ := h
    have b := bs.b
    have htb := b.htb
    have hsc := b.hsc
    walk_at "go"
    refine ift (fun h0 => ?_) (fun h0 => ?_)
    · have hE : endT z p = z.length := if_pos h0
      walk_at "go"
      rw [show ((z.length : Nat) : Int) = ((endT z p : Nat) : Int) by rw [hE]]
      walk_at "tx"
    · have hE : endT z p = (Txt.find3 z "<" (p : Int)).toNat := if_neg h0
      walk_at "go"
      rw [show Txt.find3 z "<" (p : Int) = ((endT z p : Nat) : Int) by rw [hE]; omega]
      walk_at "tx"
end
end K19

open PySem PySem.Spec PyProof.Rows L2 Pr Dn LamX

namespace K19
open Mk
def cClose (K : PySem.W.Frag) : DSp := fun ds S q _ => ∃ S0 tb sc dc dn op A z p m tag, ds = [.ref tb, .str tag] ∧ Bld K S0 S tb sc dc dn op A z p m ∧ Wf m ∧ ∀ S' op', Bld K S0 S' tb sc dc dn op' A z p (closeF m tag) → (∀ x c, S x = some c → x ≠ tb → x ≠ op → S' x = some c) → q .non S'
theorem cutD_take {l : List Dt} {k : Nat} : Dn.cutD l none (some (k : Int)) = l.take k := by
  unfold Dn.cutD
  rw [HT.sIx_none, HT.sIx_nat, List.drop_zero, Nat.sub_zero]
  rcases Nat.lt_or_ge k l.length with h | h
  · rw [Nat.min_eq_left (Nat.le_of_lt h)]
  · rw [Nat.min_eq_right h, List.take_of_length_le (Nat.le_refl _), List.take_of_length_le h]
theorem closeP_wf {m : PM} {tag : Str} (w : Wf m) : Wf (closeP m tag) := by
  unfold closeP
  split
  · rename_i h
    rw [show m.opn.dropLast = m.opn.take (m.opn.length - 1) from List.dropLast_eq_take ..]
    refine w.take ?_
    have h0 := w.last.2
    have h1 := w.last.1
    rcases Nat.lt_or_ge 1 m.opn.length with h2 | h2
    · omega
    · rw [show m.opn.length - 1 = 0 by omega, w.root] at h1
      injection h1 with h1
      have ht := h.2
      rw [← h1] at ht
      unfold tagOf at ht
      rw [w.tag0] at ht
      cases ht
  · exact w
theorem liPlace_le {m : PM} : ∀ k, liPlace m k ≤ k
  | 0 => Nat.le_refl 0
  | k + 1 => by
    show (if _ then _ else _) ≤ _
    split
    · exact Nat.le_refl _
    · exact Nat.le_trans (liPlace_le k) (Nat.le_succ k)
theorem li_pos {m : PM} (w : Wf m) {k : Nat} (h : tagOf m (m.opn.getD k 0) = "li") : 0 < k := by
  rcases Nat.eq_zero_or_pos k with e | e
  · subst e
    rw [List.getD_eq_getElem?_getD, w.root] at h
    unfold tagOf at h
    rw [show ((some 0 : Option Nat).getD 0) = 0 from rfl, w.tag0] at h
    cases h
  · exact e
theorem closeF_wf {m : PM} {tag : Str} (w : Wf m) : Wf (closeF m tag) := by
  have w1 := closeP_wf (tag := tag) w
  unfold closeF
  split
  · split
    · rename_i h
      exact w1.take (li_pos w1 h)
    · exact w1
  · exact w1
theorem closeP_N {m : PM} {tag : Str} : (closeP m tag).N = m.N := by
  unfold closeP
  split <;> rfl
theorem closeF_N {m : PM} {tag : Str} : (closeF m tag).N.length = m.N.length := by
  unfold closeF
  split
  · split
    · exact congrArg List.length closeP_N
    · exact congrArg List.length closeP_N
  · exact congrArg List.length closeP_N
section
variable {P : Program} {w : World} {K : PySem.W.Frag} {mg : Str → Option Value} {base : Heap}
set_option hygiene false in
local macro_rules | `(tactic| walk_at "le") => `(tactic| (
  walk_at "go"
  refine ⟨_, hat, ?_⟩
  walk_at "go"
  rw [htO] at ec2
  refine ift (fun h5 => ?_) (fun h5 => ?_)
  · rw [if_pos h5] at ec2
    walk_at "go"
    intro qa hqa
    rw [cutD_take, show ∀ k, (refsO A m1.opn).take k = refsO A (m1.opn.take k) from fun k => List.map_take.symm]
    walk_at "go"
    rw [ec2] at h
    refine h _ qa (b1.opnN hqa _) fun x c hx n1 n2 => ?_
    have := fr x c hx n1 n2
    rw [sput_ne n1, sput_ne (fun z => by rw [z, hqa] at this; cases this)]
    exact this
  · rw [if_neg h5] at ec2
    walk_at "go"
    rw [ec2] at h
    exact h S1 op b1 fr))
set_option hygiene false in
local macro_rules | `(tactic| walk_at "li") => `(tactic| (
  have htb1 := b1.htb
  have hop1 := b1.hop
  have op0 := w1.last.2
  refine ift (fun hl => ?_) (fun hl => ?_)
  · walk_at "go"
    rw [List.length_map]
    refine ⟨fun k δ S' => k < m1.opn.length ∧ liPlace m1 k = liPlace m1 (m1.opn.length - 1) ∧ δ = [some (.ref tb), some (.str tag), some (.int (k : Nat))] ∧ S1 = S', ⟨m1.opn.length - 1, by omega, rfl, by rw [show ((m1.opn.length : Int) - 1) = ((m1.opn.length - 1 : Nat) : Int) by omega], rfl⟩, fun k δ S' hI => ?_⟩
    obtain ⟨hk, ek, rfl, rfl⟩ := hI
    have hg : m1.opn[k]? = some (m1.opn.getD k 0) := by rw [List.getD_eq_getElem?_getD, List.getElem?_eq_getElem hk]; rfl
    have hkm := List.mem_of_getElem? hg
    obtain ⟨tk, htk, hvk⟩ := w1.tg _ hkm
    have htO : tagOf m1 (m1.opn.getD k 0) = tk := by unfold tagOf; rw [htk]; rfl
    obtain ⟨t2, c2, hA2, hn2, _⟩ := b1.at (w1.lt _ hkm)
    rw [htk, show tagD (some tk) = .str tk from rfl] at hn2
    have ec : ∀ j, liPlace m1 (m1.opn.length - 1) = j → closeF m tag = if tagOf m1 (m1.opn.getD j 0) = "li" then { m1 with opn := m1.opn.take j } else m1 := fun j ej => by
      subst ej
      subst em
      exact if_pos hl
    have hat : atI (refsO A m1.opn) (k : Int) = some (.ref (ad A (m1.opn.getD k 0))) := atI_nat (by rw [List.getElem?_map, hg]; rfl)
    have htb' := htb1
    walk_at "go"
    refine ift (fun h3 => ?_) (fun h3 => ?_)
    · have h3 : 0 < k := by omega
      obtain ⟨k', rfl⟩ : ∃ k', k = k' + 1 := ⟨k - 1, by omega⟩
      walk_at "go"
      refine ⟨_, hat, ?_⟩
      walk_at "go"
      refine nin_tup ["li", "ul", "ol"] rfl ?_
      walk_at "go"
      refine iftN (fun h4 => ?_) (fun h4 => ?_)
      · walk_at "go"
        refine ⟨k', Nat.lt_succ_self _, by omega, ?_, by rw [show (((k' + 1 : Nat) : Int) - 1) = (k' : Int) by omega], rfl⟩
        rw [← ek]
        exact (if_neg (by rw [htO]; exact h4)).symm
      · have e2 : liPlace m1 (k' + 1) = k' + 1 := if_pos (by rw [htO]; exact h4)
        have ec2 := ec _ (ek.symm.trans e2)
        walk_at "le"
    · have ec2 := ec k (by rw [← ek]; have : k = 0 := by omega
                           rw [this]; rfl)
      walk_at "le"
  · walk_at "go"
    rw [show closeF m tag = closeP m tag from if_neg hl, ← em] at h
    exact h S1 op b1 fr))
theorem ok_close (T : Tx K mg) {f : Addr} {fd : FuncData} (F : FunD K "close_before" "TreeBuilder.close_before" (defArgs s_TreeBuilder_close_before) (defBody s_TreeBuilder_close_before) (defScope s_TreeBuilder_close_before) [] [] f fd) : FnOk P w K mg base (L2.CX P w) 1 f fd ["self", "tag"] (spD K (cClose K)) := by
  refine dfn 3 F sc_TreeBuilder_close_before (fun ds S q e h => ?_) rfl (fun cdv A0 outer s H E e hr => ⟨_, (dss_cons (ds_if (PW.pt (dt_and (dt_cmp (od_in rfl (hW_of hr)) (dv (pv 1)) (de_gcT rfl T.g_BLOCKS (rep_tup T.t_BLOCKS))) (pw_and1 (dt_cmp (od_eq rfl (hU_of hr)) (de_fld rfl (fd_Node_tag T) (de_ix rfl (de_fld rfl (fd_TreeBuilder_open_nodes T) (dv (pv 0))) (de_neg de_int))) de_str)))) (dss_one (ds_expr (de_bm0 rfl is_ls PySem.F.plainAttrs_list PySem.F.slot_list_pop PySem.F.type_list_pop md_pop0 (de_fld rfl (fd_TreeBuilder_open_nodes T) (dv (pv 0)))))) dss_nil)
  (dss_one (ds_if (dt_cmp (od_eq rfl (hU_of hr)) (dv (pv 1)) de_str) (dss_cons (ds_set (i := 2) sc_TreeBuilder_close_before.nd rfl (Or.inl rfl) (de_op od_sub (de_callB (cd_len rfl) (by rfl) T.b_len (by decide +kernel) (da_cons (de_fld rfl (fd_TreeBuilder_open_nodes T) (dv (pv 0))) da_nil)) de_int))
  (dss_cons (ds_while poX (PW.pt (dt_and (dt_cmp od_gt (dv (pv 2)) de_int) (pw_and1 (dt_cmp (od_notin rfl (hW_of hr)) (de_fld rfl (fd_Node_tag T) (de_ix rfl (de_fld rfl (fd_TreeBuilder_open_nodes T) (dv (pv 0))) (dv (pv 2)))) (de_tup (da_cons de_str (da_cons de_str (da_cons de_str da_nil)))))))) (dss_one (ds_aug (i := 2) sc_TreeBuilder_close_before.nd rfl (Or.inl rfl) de_int ip_subD)))
  (dss_one (ds_if (dt_cmp (od_eq rfl (hU_of hr)) (de_fld rfl (fd_Node_tag T) (de_ix rfl (de_fld rfl (fd_TreeBuilder_open_nodes T) (dv (pv 0))) (dv (pv 2)))) de_str) (dss_one (ds_fld rfl (fd_TreeBuilder_open_nodes T) (dv (pv 0)) (de_slO rfl (de_fld rfl (fd_TreeBuilder_open_nodes T) (dv (pv 0))) do_none (do_some (dv (pv 2)))))) dss_nil)))) dss_nil))), fun ds S q h => ?_⟩)
  · obtain ⟨_, _, _, _, _, _, _, _, _, _, _, rfl, _⟩ := h
    rfl
  · obtain ⟨S0, tb, sc, dc, dn, op, A, z, p, m, tag, rfl, b, wf, h⟩ := h
    have htb := b.htb
    have hop := b.hop
    obtain ⟨tl, htl, htg, hvl⟩ := (b.last wf).2
    obtain ⟨tt, ct, hAt, hlt, _⟩ := b.at (wf.lt _ wf.lastM)
    rw [htl, show tagD (some tl) = .str tl from rfl] at hlt
    obtain ⟨m1, em⟩ : ∃ m1, m1 = closeP m tag := ⟨_, rfl⟩
    have w1 : Wf m1 := by rw [em]; exact closeP_wf wf
    walk_at "go"
    refine in_tup blocksL rfl ?_
    walk_at "go"
    refine ift (fun h1 => ?_) (fun h1 => ?_)
    · walk_at "go"
      refine ⟨_, (b.last wf).1, ?_⟩
      walk_at "go"
      refine ift (fun h2 => ?_) (fun h2 => ?_)
      · have e1 : closeP m tag = { m with opn := m.opn.dropLast } := if_pos ⟨h1, by rw [htg]; exact h2⟩
        walk_at "go"
        refine ⟨_, by rw [List.length_map, List.getElem?_map, wf.last.1]; rfl, ?_⟩
        rw [show (refsO A m.opn).dropLast = refsO A m.opn.dropLast from List.map_dropLast.symm]
        have b1 := b.opn m.opn.dropLast
        rw [← e1, ← em] at b1
        have fr : ∀ x c, S x = some c → x ≠ tb → x ≠ op → sput S op (.lst (refsO A m.opn.dropLast)) x = some c := fun x c h _ n => by rw [sput_ne n]; exact h
        generalize sput S op (.lst (refsO A m.opn.dropLast)) = S1 at b1 fr ⊢
        walk_at "go"
        walk_at "li"
      · have e1 : closeP m tag = m := if_neg (fun z => h2 (by rw [← htg]; exact z.2))
        obtain ⟨S1, hS1⟩ : ∃ S1, S1 = S := ⟨_, rfl⟩
        have b1 : Bld K S0 S1 tb sc dc dn op A z p m1 := by rw [hS1, em, e1]; exact b
        have fr : ∀ x c, S x = some c → x ≠ tb → x ≠ op → S1 x = some c := by rw [hS1]; exact fun x c h _ _ => h
        rw [← hS1]
        walk_at "go"
        walk_at "li"
    · have e1 : closeP m tag = m := if_neg (fun z => h1 z.1)
      obtain ⟨S1, hS1⟩ : ∃ S1, S1 = S := ⟨_, rfl⟩
      have b1 : Bld K S0 S1 tb sc dc dn op A z p m1 := by rw [hS1, em, e1]; exact b
      have fr : ∀ x c, S x = some c → x ≠ tb → x ≠ op → S1 x = some c := by rw [hS1]; exact fun x c h _ _ => h
      rw [← hS1]
      walk_at "go"
      walk_at "li"
end
end K19

open PySem PySem.Spec PyProof.Rows L2 Pr Dn LamX

namespace K19
open Mk
theorem enum_opn {A : List Tri} {o : List Nat} : enumD (refsO A o) = (List.range o.length).map fun i => Dt.tup [.int (i : Nat), .ref (ad A (o.getD i 0))] := by
  refine List.ext_getElem? fun i => ?_
  rw [enumD_get, List.getElem?_map, List.getElem?_map]
  by_cases h : i < o.length
  · have e : o[i]? = some (o.getD i 0) := by rw [List.getD_eq_getElem?_getD, List.getElem?_eq_getElem h]; rfl
    rw [List.getElem?_range h, e]
    rfl
  · rw [List.getElem?_eq_none (Nat.le_of_not_lt h), List.getElem?_eq_none (by rw [List.length_range]; exact Nat.le_of_not_lt h)]
    rfl
theorem cutD_take2 {l : List Dt} {k : Nat} : Dn.cutD l none (some (k : Int)) = l.take k := by
  unfold Dn.cutD
  rw [HT.sIx_none, HT.sIx_nat, List.drop_zero, Nat.sub_zero]
  rcases Nat.lt_or_ge k l.length with h | h
  · rw [Nat.min_eq_left (Nat.le_of_lt h)]
  · rw [Nat.min_eq_right h, List.take_of_length_le (Nat.le_refl _), List.take_of_length_le h]
section
variable {P : Program} {w : World} {K : PySem.W.Frag} {mg : Str → Option Value} {base : Heap}
theorem ok_end_tag (T : Tx K mg) (m_Scanner_here_1 : MetX P w K mg base 1 (He.ga K "Scanner") "here" (spD K (cHere K)) [.int 1]) (m_Scanner_skip_blanks : MetX P w K mg base 2 (He.ga K "Scanner") "skip_blanks" (spD K (cSkip K)) []) (m_Scanner_read_name : MetX P w K mg base 2 (He.ga K "Scanner") "read_name" (spD K (cName K)) [])
    {f : Addr} {fd : FuncData} (F : FunD K "end_tag" "TreeBuilder.end_tag" (defArgs s_TreeBuilder_end_tag) (defBody s_TreeBuilder_end_tag) (defScope s_TreeBuilder_end_tag) [] [] f fd) : FnOk P w K mg base (L2.CX P w) 3 f fd ["self"] (spD K (cStep K endF)) := by
  refine dfn 5 F sc_TreeBuilder_end_tag (fun ds S q e h => ?_) rfl (fun cdv A0 outer s H E e hr => ⟨_, (dss_cons (ds_fldaug (K := K) rfl (fd_Scanner_place T) in_addD (de_fld rfl (fd_TreeBuilder_scanner T) (dv (pv 0))) de_int)
  (dss_cons (ds_set (i := 1) sc_TreeBuilder_end_tag.nd rfl (Or.inr rfl) (de_meth0 (nm := nm_Scanner) rfl m_Scanner_read_name (by decide +kernel) dfl_nil hr (by decide) paX (de_fld rfl (fd_TreeBuilder_scanner T) (dv (pv 0)))))
  (dss_cons (ds_expr (de_meth0 (nm := nm_Scanner) rfl m_Scanner_skip_blanks (by decide +kernel) dfl_nil hr (by decide) paX (de_fld rfl (fd_TreeBuilder_scanner T) (dv (pv 0)))))
  (dss_cons (ds_if (dt_cmp (od_ne rfl (hU_of hr)) (de_meth0 (nm := nm_Scanner) rfl m_Scanner_here_1 (by decide +kernel) (df_Scanner_here_1) hr (by decide) paX (de_fld rfl (fd_TreeBuilder_scanner T) (dv (pv 0)))) de_str) (dss_one (dr_raise (C := He.ga K "MarkupError") PySem.F.excBase_ValueError T.x_MarkupError.1 T.g_MarkupError T.x_MarkupError.2.1 (raises_own T.x_MarkupError.2.2.1 T.x_MarkupError.2.2.2) rfl)) dss_nil)
  (dss_cons (ds_fldaug (K := K) rfl (fd_Scanner_place T) in_addD (de_fld rfl (fd_TreeBuilder_scanner T) (dv (pv 0))) de_int)
  (dss_cons (ds_setLc (i := 2) (own := [("place", 3), ("node", 4)]) rfl sc_TreeBuilder_end_tag.nd rfl rfl (sw_true rfl rfl rfl (by decide +kernel)) (di_enum rfl (by rfl) T.b_enumerate (da_cons (de_fld rfl (fd_TreeBuilder_open_nodes T) (dv (pv 0))) da_nil)) (blkOk_by (own := [("place", 3), ("node", 4)]) (N := sl_TreeBuilder_end_tag) (sc := defScope s_TreeBuilder_end_tag) (by decide +kernel)) (fun _ _ _ _ _ => (gw_tup (n := 2) rfl rfl (gws_cons (gw_name (i := 3) sc_TreeBuilder_end_tag.nd rfl (Or.inl rfl) (by decide)) (gws_cons (gw_name (i := 4) sc_TreeBuilder_end_tag.nd rfl (Or.inl rfl) (by decide)) gws_nil)))) (fun _ _ _ _ _ => (ts_one (PW.pt (dt_and (dt_cmp od_gt (dv (pv 3)) de_int) (pw_and1 (dt_cmp (od_eq rfl (hU_of hr)) (de_fld rfl (fd_Node_tag T) (dv (pv 4))) (dv (pv 1)))))))) (fun _ _ _ _ _ => (dv (pv 3))))
  (dss_cons (ds_if (dt_cmp (od_eqN (hW_of hr)) (dv (pv 2)) (de_lst da_nil)) (dss_one (dr_raise (C := He.ga K "MarkupError") PySem.F.excBase_ValueError T.x_MarkupError.1 T.g_MarkupError T.x_MarkupError.2.1 (raises_own T.x_MarkupError.2.2.1 T.x_MarkupError.2.2.2) rfl)) dss_nil)
  (dss_one (ds_fld rfl (fd_TreeBuilder_open_nodes T) (dv (pv 0)) (de_slO rfl (de_fld rfl (fd_TreeBuilder_open_nodes T) (dv (pv 0))) do_none (do_some (de_ix rfl (dv (pv 2)) (de_neg de_int))))))))))))), fun ds S q h => ?_⟩)
  · obtain ⟨_, _, _, _, _, _, _, _, _, _, rfl, _⟩ := h
    rfl
  · obtain ⟨S0, tb, sc, dc, dn, op, A, z, p, m, rfl, bs, hT0, he, h⟩ := h
    have b := bs.b
    have wf := bs.w
    have htb := b.htb
    have hsc := b.hsc
    walk_at "go"
    rw [show (p : Int) + 2 = ((p + 2 : Nat) : Int) by omega]
    have b1 := b.scan (p + 2)
    generalize sput S sc (scC K z (p + 2)) = S1 at b1 ⊢
    have htb1 := b1.htb
    have hsc1 := b1.hsc
    walk_at "go"
    refine ⟨sc, z, p + 2, rfl, hsc1, fun hn => he (if_pos hn) S1 b1.le, fun hn => ?_⟩
    generalize hnm : cutS z (some ((p + 2 : Nat) : Int)) (some (nameP z (p + 2) : Nat)) = tg
    have hF : endF z p m = if hereS z (skipP z (nameP z (p + 2))) 1 ≠ ">" then none else if placesF m tg = [] then none else some (skipP z (nameP z (p + 2)) + 1, { m with opn := m.opn.take ((placesF m tg).getLastD 0) }) := by rw [← hnm]; exact if_neg hn
    have b2 := b1.scan (nameP z (p + 2))
    generalize nameP z (p + 2) = p2 at hF b2 ⊢
    walk_at "go"
    generalize sput S1 sc (scC K z p2) = S2 at b2 ⊢
    have htb2 := b2.htb
    have hsc2 := b2.hsc
    walk_at "go"
    refine ⟨sc, z, p2, rfl, hsc2, ?_⟩
    have b3 := b2.scan (skipP z p2)
    generalize skipP z p2 = p3 at hF b3 ⊢
    generalize sput S2 sc (scC K z p3) = S3 at b3 ⊢
    have htb3 := b3.htb
    have hsc3 := b3.hsc
    walk_at "go"
    refine ⟨sc, z, p3, 1, rfl, hsc3, ?_⟩
    walk_at "go"
    refine iftN (fun h1 => ?_) (fun h1 => ?_)
    · rw [if_pos h1] at hF
      walk_at "go"
      exact he hF S3 b3.le
    · rw [if_neg (fun n => n h1)] at hF
      walk_at "go"
      rw [show (p3 : Int) + 1 = ((p3 + 1 : Nat) : Int) by omega]
      have b4 := b3.scan (p3 + 1)
      generalize sput S3 sc (scC K z (p3 + 1)) = S4 at b4 ⊢
      have htb4 := b4.htb
      have hop4 := b4.hop
      have mx := wf.mx
      walk_at "go"
      refine ⟨_, htb4, ?_⟩
      walk_at "go"
      rw [enum_opn]
      refine ⟨by rw [List.length_map, List.length_range]; exact size6 (by omega), ?_⟩
      walk_at "go"
      refine lc_choose (keep := fun S => S op = some (.lst (refsO A m.opn))) (fun (i : Nat) => Dt.tup [.int i, .ref (ad A (m.opn.getD i 0))]) (fun i => decide (0 < i) && decide (tagOf m (m.opn.getD i 0) = tg)) (fun (i : Nat) => Dt.int i) hop4 (List.range m.opn.length) (fun i hi kY kN hY hN => ?_) ?_
      · have hil := List.mem_range.mp hi
        have hg : m.opn[i]? = some (m.opn.getD i 0) := by rw [List.getD_eq_getElem?_getD, List.getElem?_eq_getElem hil]; rfl
        obtain ⟨tk, htk, hvk⟩ := wf.tg _ (List.mem_of_getElem? hg)
        have htO : tagOf m (m.opn.getD i 0) = tk := by unfold tagOf; rw [htk]; rfl
        obtain ⟨t2, c2, hA2, hn2, _⟩ := b4.at (wf.lt _ (List.mem_of_getElem? hg))
        rw [htk, show tagD (some tk) = .str tk from rfl] at hn2
        walk_at "go"
        refine ift (fun h3 => ?_) (fun h3 => hN (by rw [decide_eq_false (by omega)]; rfl))
        walk_at "go"
        refine ift (fun h4 => hY (by rw [decide_eq_true (show 0 < i by omega), htO, decide_eq_true h4]; rfl)) (fun h4 => hN (by rw [htO, decide_eq_false h4, Bool.and_false]))
      · walk_at "go"
        cases hpl : placesF m tg with
        | nil =>
          rw [if_pos hpl] at hF
          have hpl : (List.range m.opn.length).filter (fun i => decide (0 < i) && decide (tagOf m (m.opn.getD i 0) = tg)) = [] := hpl
          rw [hpl]
          walk_at "go"
          exact he hF S4 b4.le
        | cons x l =>
          rw [if_neg (by rw [hpl]; exact List.cons_ne_nil _ _)] at hF
          have hpl' : (List.range m.opn.length).filter (fun i => decide (0 < i) && decide (tagOf m (m.opn.getD i 0) = tg)) = x :: l := hpl
          rw [hpl']
          walk_at "w"
          rw [show (List.map (fun (i : Nat) => Dt.int i) (x :: l)).isEmpty = false from rfl]
          have hlast : ((x :: l).map fun (i : Nat) => Dt.int i)[((x :: l).map fun (i : Nat) => Dt.int i).length - 1]? = some (Dt.int ((x :: l).getLastD 0 : Nat)) := by
            rw [List.length_map, List.getElem?_map, List.getLastD_eq_getLast?, List.getLast?_eq_getElem?, List.getElem?_eq_getElem (by rw [List.length_cons]; omega)]
            rfl
          walk_at "go"
          refine ⟨_, atI_last hlast (by rw [List.length_map, List.length_cons]; omega), ?_⟩
          walk_at "go"
          intro qa hqa
          rw [cutD_take2, show ∀ k, (refsO A m.opn).take k = refsO A (m.opn.take k) from fun k => List.map_take.symm]
          walk_at "go"
          rw [hpl] at hF
          exact h _ _ hF _ qa A (b4.opnN hqa _)
end
end K19

open PySem PySem.Spec PyProof.Rows L2 Pr Dn LamX

namespace K19
open Mk
theorem Bld.dicO {K : PySem.W.Frag} {S0 S : Store} {tb sc dc dn op t : Addr} {A : List Tri} {z : Str} {p : Nat} {m : PM} {L L' : List (Key × Dt)} (h : Bld K S0 S tb sc dc dn op A z p m) (ht : S t = some (.dic L)) (f0 : S0 t = none) (n1 : dn ≠ t) (n2 : t ∉ A.map (·.2.1)) : Bld K S0 (sput S t (.dic L')) tb sc dc dn op A z p m := by
  have ne : ∀ x c, S x = some c → (∀ l, c ≠ .dic l) → x ≠ t := fun x c hx hn e => by
    rw [e, ht] at hx
    injection hx with hx
    exact hn _ hx.symm
  obtain ⟨v, hdc⟩ := h.hdc
  obtain ⟨L, hdn, hL⟩ := h.hdn
  refine ⟨by rw [sput_ne (ne _ _ h.htb (fun l e => by cases e))]; exact h.htb, by rw [sput_ne (ne _ _ h.hsc (fun l e => by cases e))]; exact h.hsc, ⟨v, by rw [sput_ne (ne _ _ hdc (fun l e => by cases e))]; exact hdc⟩, ⟨L, by rw [sput_ne n1]; exact hdn, hL⟩, by rw [sput_ne (ne _ _ h.hop (fun l e => by cases e))]; exact h.hop, h.len, fun i n a t' c hn hA => ?_,
    fun x c hx => by rw [sput_ne (fun e => by rw [e, f0] at hx; cases hx)]; exact h.le x c hx, h.ftb, h.fsc, h.fdc, h.fdn, h.fop, h.fA, h.opc, h.chn, h.dna⟩
  obtain ⟨e1, e2, e3⟩ := h.nds i n a t' c hn hA
  exact ⟨by rw [sput_ne (ne _ _ e1 (fun l e => by cases e))]; exact e1, by rw [sput_ne (fun e => n2 (List.mem_map.mpr ⟨_, List.mem_of_getElem? hA, e⟩))]; exact e2, by rw [sput_ne (ne _ _ e3 (fun l e => by cases e))]; exact e3⟩
theorem Bld.new {K : PySem.W.Frag} {S0 S : Store} {tb sc dc dn op t : Addr} {A : List Tri} {z : Str} {p : Nat} {m : PM} {c0 : Cell} (h : Bld K S0 S tb sc dc dn op A z p m) (ht : S t = none) : Bld K S0 (sput S t c0) tb sc dc dn op A z p m ∧ dn ≠ t ∧ t ∉ A.map (·.2.1) ∧ sc ≠ t := by
  have ne : ∀ x c, S x = some c → x ≠ t := fun x c hx e => by rw [e, ht] at hx; cases hx
  obtain ⟨v, hdc⟩ := h.hdc
  obtain ⟨L, hdn, hL⟩ := h.hdn
  refine ⟨⟨by rw [sput_ne (ne _ _ h.htb)]; exact h.htb, by rw [sput_ne (ne _ _ h.hsc)]; exact h.hsc, ⟨v, by rw [sput_ne (ne _ _ hdc)]; exact hdc⟩, ⟨L, by rw [sput_ne (ne _ _ hdn)]; exact hdn, hL⟩, by rw [sput_ne (ne _ _ h.hop)]; exact h.hop, h.len, fun i n a t' c hn hA => ?_,
    fun x c hx => by rw [sput_ne (ne x c (h.le x c hx))]; exact h.le x c hx, h.ftb, h.fsc, h.fdc, h.fdn, h.fop, h.fA, h.opc, h.chn, h.dna⟩, ne _ _ hdn, fun hm => ?_, ne _ _ h.hsc⟩
  · obtain ⟨e1, e2, e3⟩ := h.nds i n a t' c hn hA
    exact ⟨by rw [sput_ne (ne _ _ e1)]; exact e1, by rw [sput_ne (ne _ _ e2)]; exact e2, by rw [sput_ne (ne _ _ e3)]; exact e3⟩
  · obtain ⟨⟨a, t', c⟩, hr, e⟩ := List.mem_map.mp hm
    obtain ⟨i, hi⟩ := List.getElem?_of_mem hr
    have hl : i < m.N.length := by rw [← h.len]; exact (List.getElem?_eq_some_iff.mp hi).1
    obtain ⟨_, e2, _⟩ := h.nds i _ a t' c (nod_get hl) hi
    exact ne _ _ e2 e
theorem dk_new {fd : List (Str × Str)} {k v : Str} (h : aGet fd k = none) : kPut (dkD fd) (Sum.inr k : Key) (.str v) = dkD (fd ++ [(k, v)]) := by
  unfold kPut
  rw [kGet_any, dk_get, h]
  unfold dkD
  rw [List.map_append]
  rfl
theorem dk_last {fd : List (Str × Str)} {k v u : Str} (h : aGet fd k = none) : kPut (dkD (fd ++ [(k, u)])) (Sum.inr k : Key) (.str v) = dkD (fd ++ [(k, v)]) := by
  have hg : aGet (fd ++ [(k, u)]) k = some u := by
    unfold aGet at h ⊢
    rw [Option.map_eq_none_iff] at h
    rw [List.find?_append, h]
    simp
  unfold kPut
  rw [kGet_any, dk_get, hg]
  unfold dkD
  rw [show ((some u : Option Str).map Dt.str).isSome = true from rfl, if_pos rfl, List.map_append, List.map_append, List.map_append]
  congr 1
  · rw [List.map_map]
    refine List.map_congr_left fun p hp => ?_
    show (if (Sum.inr p.1 : Key) = Sum.inr k then _ else _) = _
    rw [if_neg fun e => aGet_none.mp h p.2 (by have := Sum.inr.inj e; rw [← this]; exact hp)]
  · simp
theorem up_len {z s t : Str} {p p' : Nat} (hp : p ≤ z.length) (h : upP z s p = some (t, p')) : t.length ≤ z.length := by
  unfold upP at h
  split at h
  · cases h
  · rename_i h0
    injection h with h
    injection h with h1 _
    rcases find_at z s p hp with e | ⟨k, e, h3, h4⟩
    · omega
    · rw [← h1, e]
      exact cut_len h3
def cAttrs (K : PySem.W.Frag) : DSp := fun ds S q e => ∃ S0 tb sc dc dn op A z p m, ds = [.ref tb] ∧ Bld K S0 S tb sc dc dn op A z p m ∧ p ≤ z.length ∧ z.length ≤ 900000 ∧ (attrF z p = none → ∀ S', Le S0 S' → e (He.ga K "MarkupError") S') ∧
  ∀ fd p', attrF z p = some (fd, p') → ∀ S' t, S t = none → S' t = some (.dic (dkD fd)) → Bld K S0 S' tb sc dc dn op A z p' m → q (.ref t) S'
section
variable {P : Program} {w : World} {K : PySem.W.Frag} {mg : Str → Option Value} {base : Heap}
theorem ok_attrs (T : Tx K mg) (m_Scanner_here_1 : MetX P w K mg base 1 (He.ga K "Scanner") "here" (spD K (cHere K)) [.int 1]) (m_Scanner_skip_blanks : MetX P w K mg base 2 (He.ga K "Scanner") "skip_blanks" (spD K (cSkip K)) []) (m_Scanner_read_name : MetX P w K mg base 2 (He.ga K "Scanner") "read_name" (spD K (cName K)) [])
    (m_Scanner_up_to : MetX P w K mg base 1 (He.ga K "Scanner") "up_to" (spD K (cUp K)) []) (c_with_entities : CalX P w K mg base 1 "with_entities" (spD K (cWith K)) [])
    {f : Addr} {fd : FuncData} (F : FunD K "read_attributes" "TreeBuilder.read_attributes" (defArgs s_TreeBuilder_read_attributes) (defBody s_TreeBuilder_read_attributes) (defScope s_TreeBuilder_read_attributes) [] [] f fd) : FnOk P w K mg base (L2.CX P w) 3 f fd ["self"] (spD K (cAttrs K)) := by
  refine dfn 3 F sc_TreeBuilder_read_attributes (fun ds S q e h => ?_) rfl (fun cdv A0 outer s H E e hr => ⟨_, (dss_cons (ds_set (i := 1) sc_TreeBuilder_read_attributes.nd rfl (Or.inl rfl) de_dnewO)
  (dss_cons (ds_expr (de_meth0 (nm := nm_Scanner) rfl m_Scanner_skip_blanks (by decide +kernel) dfl_nil hr (by decide) paX (de_fld rfl (fd_TreeBuilder_scanner T) (dv (pv 0)))))
  (dss_cons (ds_while poX (dt_cmp (od_notin rfl (hW_of hr)) (de_meth0 (nm := nm_Scanner) rfl m_Scanner_here_1 (by decide +kernel) (df_Scanner_here_1) hr (by decide) paX (de_fld rfl (fd_TreeBuilder_scanner T) (dv (pv 0)))) (de_tup (da_cons de_str (da_cons de_str da_nil)))) (dss_cons (ds_set (i := 2) sc_TreeBuilder_read_attributes.nd rfl (Or.inl rfl) (de_meth0 (nm := nm_Scanner) rfl m_Scanner_read_name (by decide +kernel) dfl_nil hr (by decide) paX (de_fld rfl (fd_TreeBuilder_scanner T) (dv (pv 0)))))
  (dss_cons (ds_if (dt_din (hu_of hr) (dv (pv 2)) (dv (pv 1))) (dss_one (dr_raise (C := He.ga K "MarkupError") PySem.F.excBase_ValueError T.x_MarkupError.1 T.g_MarkupError T.x_MarkupError.2.1 (raises_own T.x_MarkupError.2.2.1 T.x_MarkupError.2.2.2) rfl)) dss_nil)
  (dss_cons (ds_asg de_str (dg_subD (hu_of hr) (dv (pv 1)) (dv (pv 2))))
  (dss_cons (ds_if (dt_cmp (od_eq rfl (hU_of hr)) (de_meth0 (nm := nm_Scanner) rfl m_Scanner_here_1 (by decide +kernel) (df_Scanner_here_1) hr (by decide) paX (de_fld rfl (fd_TreeBuilder_scanner T) (dv (pv 0)))) de_str) (dss_cons (ds_fldaug (K := K) rfl (fd_Scanner_place T) in_addD (de_fld rfl (fd_TreeBuilder_scanner T) (dv (pv 0))) de_int)
  (dss_cons (ds_if (dt_cmp (od_ne rfl (hU_of hr)) (de_meth0 (nm := nm_Scanner) rfl m_Scanner_here_1 (by decide +kernel) (df_Scanner_here_1) hr (by decide) paX (de_fld rfl (fd_TreeBuilder_scanner T) (dv (pv 0)))) de_str) (dss_one (dr_raise (C := He.ga K "MarkupError") PySem.F.excBase_ValueError T.x_MarkupError.1 T.g_MarkupError T.x_MarkupError.2.1 (raises_own T.x_MarkupError.2.2.1 T.x_MarkupError.2.2.2) rfl)) dss_nil)
  (dss_cons (ds_fldaug (K := K) rfl (fd_Scanner_place T) in_addD (de_fld rfl (fd_TreeBuilder_scanner T) (dv (pv 0))) de_int)
  (dss_one (ds_asg (de_call rfl c_with_entities dfl_nil hr (by decide) rfl paX (da_cons (de_meth (nm := nm_Scanner) rfl m_Scanner_up_to (by decide +kernel) dfl_nil hr (by decide) paX (de_fld rfl (fd_TreeBuilder_scanner T) (dv (pv 0))) (da_cons de_str da_nil)) da_nil)) (dg_subD (hu_of hr) (dv (pv 1)) (dv (pv 2)))))))) dss_nil)
  (dss_one (ds_expr (de_meth0 (nm := nm_Scanner) rfl m_Scanner_skip_blanks (by decide +kernel) dfl_nil hr (by decide) paX (de_fld rfl (fd_TreeBuilder_scanner T) (dv (pv 0)))))))))))
  (dss_cons (ds_expr (de_meth (nm := nm_Scanner) rfl m_Scanner_up_to (by decide +kernel) dfl_nil hr (by decide) paX (de_fld rfl (fd_TreeBuilder_scanner T) (dv (pv 0))) (da_cons de_str da_nil)))
  (dss_one (ds_ret (dv (pv 1)))))))), fun ds S q h => ?_⟩)
  · obtain ⟨_, _, _, _, _, _, _, _, _, _, rfl, _⟩ := h
    rfl
  · obtain ⟨S0, tb, sc, dc, dn, op, A, z, p, m, rfl, b, pz, zl, he, h⟩ := h
    walk_at "go"
    intro t ht
    obtain ⟨b1, nd, nat, nst⟩ := b.new (c0 := .dic []) ht
    have f0 := b.f0 ht
    have t1 : sput S t (.dic []) t = some (.dic (dkD [])) := sput_same
    generalize sput S t (.dic []) = S1 at b1 t1 ⊢
    have htb1 := b1.htb
    have hsc1 := b1.hsc
    walk_at "go"
    refine ⟨sc, z, p, rfl, hsc1, ?_⟩
    have b2 := b1.scan (skipP z p)
    have t2 : sput S1 sc (scC K z (skipP z p)) t = some (.dic (dkD [])) := by rw [sput_ne nst.symm]; exact t1
    have ps := skip_at pz
    generalize sput S1 sc (scC K z (skipP z p)) = S2 at b2 t2 ⊢
    walk_at "go"
    refine ⟨fun j δ S' => ∃ p' fd n u2, j = z.length - p' ∧ p' ≤ z.length ∧ fd.length ≤ p' ∧ z.length < n + p' ∧ attrE z n p' fd = attrF z p ∧ δ = [some (.ref tb), some (.ref t), u2] ∧ Bld K S0 S' tb sc dc dn op A z p' m ∧ S' t = some (.dic (dkD fd)), ⟨_, skipP z p, [], z.length + 1, none, rfl, ps.2, Nat.zero_le _, by omega, rfl, rfl, b2, t2⟩, fun j δ S' hI => ?_⟩
    obtain ⟨p', fd, n, u2, ej, hp', hfd, hn, ea, rfl, b', t'⟩ := hI
    have htb' := b'.htb
    have hsc' := b'.hsc
    walk_at "go"
    refine ⟨sc, z, p', 1, rfl, hsc', ?_⟩
    walk_at "go"
    refine nin_tup ["", ">"] rfl ?_
    walk_at "go"
    obtain ⟨n, rfl⟩ : ∃ n', n = n' + 1 := ⟨n - 1, by omega⟩
    refine iftN (fun h0 => ?_) (fun h0 => ?_)
    · have hnn : ¬ (hereS z p' 1 = "" ∨ hereS z p' 1 = ">") := fun hh => h0 (by simpa using hh)
      have e1 : attrE z (n + 1) p' fd = _ := if_neg hnn
      walk_at "go"
      refine ⟨sc, z, p', rfl, hsc', fun hx => ?_, fun hx => ?_⟩
      · rw [if_pos hx] at e1
        exact he (by rw [← ea, e1]) S' b'.le
      · rw [if_neg hx] at e1
        have nb := name_at hp'
        have b3 := b'.scan (nameP z p')
        have t3 : sput S' sc (scC K z (nameP z p')) t = some (.dic (dkD fd)) := by rw [sput_ne nst.symm]; exact t'
        have hpn : p' < nameP z p' := Nat.lt_of_le_of_ne nb.1 (Ne.symm hx)
        generalize cutS z (some (p' : Int)) (some (nameP z p' : Nat)) = nm at e1 ⊢
        generalize sput S' sc (scC K z (nameP z p')) = S3 at b3 t3 ⊢
        generalize nameP z p' = p1 at e1 b3 nb hpn ⊢
        have htb3 := b3.htb
        have hsc3 := b3.hsc
        walk_at "go"
        rw [dk_get]
        cases hg : aGet fd nm with
        | some y =>
          rw [hg] at e1
          walk_at "w"
          rw [show ((some y : Option Str).map Dt.str).isSome = true from rfl]
          walk_at "go"
          exact he (by rw [← ea, e1]; rfl) S3 b3.le
        | none =>
          rw [hg] at e1
          have e1 : attrE z (n + 1) p' fd = if hereS z p1 1 = "=" then _ else _ := e1
          walk_at "w"
          rw [show ((none : Option Str).map Dt.str).isSome = false from rfl]
          walk_at "go"
          refine ⟨by unfold dkD; rw [List.length_map]; exact size6 (by omega), ?_⟩
          rw [dk_new hg]
          have b4 := b3.dicO (L' := dkD (fd ++ [(nm, ("" : Str))])) t3 f0 nd nat
          have t4 : sput S3 t (.dic (dkD (fd ++ [(nm, ("" : Str))]))) t = some (.dic (dkD (fd ++ [(nm, ("" : Str))]))) := sput_same
          generalize sput S3 t (.dic (dkD (fd ++ [(nm, ("" : Str))]))) = S4 at b4 t4 ⊢
          have htb4 := b4.htb
          have hsc4 := b4.hsc
          walk_at "go"
          refine ⟨sc, z, p1, 1, rfl, hsc4, ?_⟩
          walk_at "go"
          refine ift (fun h5 => ?_) (fun h5 => ?_)
          · have e2 : attrE z (n + 1) p' fd = if hereS z (p1 + 1) 1 ≠ "\"" then none else (upP z "\"" (p1 + 2)).bind fun r => (withEnt r.1).bind fun v => attrE z n (skipP z r.2) (fd ++ [(nm, v)]) := e1.trans (if_pos h5)
            walk_at "go"
            rw [show (p1 : Int) + 1 = ((p1 + 1 : Nat) : Int) by omega]
            have b5 := b4.scan (p1 + 1)
            have t5 : sput S4 sc (scC K z (p1 + 1)) t = _ := (sput_ne nst.symm).trans t4
            generalize sput S4 sc (scC K z (p1 + 1)) = S5 at b5 t5 ⊢
            have htb5 := b5.htb
            have hsc5 := b5.hsc
            walk_at "go"
            refine ⟨sc, z, p1 + 1, 1, rfl, hsc5, ?_⟩
            walk_at "go"
            refine iftN (fun h6 => ?_) (fun h6 => ?_)
            · rw [if_pos h6] at e2
              walk_at "go"
              exact he (by rw [← ea, e2]) S5 b5.le
            · rw [if_neg (fun n => n h6)] at e2
              have hl6 := here_len h6 rfl
              walk_at "go"
              rw [show ((p1 + 1 : Nat) : Int) + 1 = ((p1 + 2 : Nat) : Int) by omega]
              have b6 := b5.scan (p1 + 2)
              have t6 : sput S5 sc (scC K z (p1 + 2)) t = _ := (sput_ne nst.symm).trans t5
              generalize sput S5 sc (scC K z (p1 + 2)) = S6 at b6 t6 ⊢
              have htb6 := b6.htb
              have hsc6 := b6.hsc
              walk_at "go"
              refine ⟨sc, z, p1 + 2, "\"", rfl, hsc6, by omega, by decide, fun hu => he (by rw [← ea, e2, hu]; rfl) S6 b6.le, fun tx p3 hu => ?_⟩
              have up := up_at (by omega) hu
              rw [hu] at e2
              have b7 := b6.scan p3
              have t7 : sput S6 sc (scC K z p3) t = _ := (sput_ne nst.symm).trans t6
              generalize sput S6 sc (scC K z p3) = S7 at b7 t7 ⊢
              walk_at "go"
              have hul := up_len (by omega) hu
              refine ⟨tx, rfl, by omega, fun hw => he (by rw [← ea, e2]; show (withEnt tx).bind _ = none; rw [hw]; rfl) S7 b7.le, fun v hw => ?_⟩
              have e3 : attrE z (n + 1) p' fd = attrE z n (skipP z p3) (fd ++ [(nm, v)]) := e2.trans (by show (withEnt tx).bind _ = _; rw [hw]; rfl)
              walk_at "go"
              refine ⟨by unfold dkD; rw [List.length_map, List.length_append, List.length_singleton]; exact size6 (by omega), ?_⟩
              rw [dk_last hg]
              have b8 := b7.dicO (L' := dkD (fd ++ [(nm, v)])) t7 f0 nd nat
              have t8 : sput S7 t (.dic (dkD (fd ++ [(nm, v)]))) t = some (.dic (dkD (fd ++ [(nm, v)]))) := sput_same
              generalize sput S7 t (.dic (dkD (fd ++ [(nm, v)]))) = S8 at b8 t8 ⊢
              have htb8 := b8.htb
              have hsc8 := b8.hsc
              walk_at "go"
              have sk := skip_at up.2
              have up1 : p1 + 2 + 1 ≤ p3 := up.1
              refine ⟨sc, z, p3, rfl, hsc8, ?_⟩
              walk_at "go"
              exact ⟨_, by omega, skipP z p3, fd ++ [(nm, v)], n, _, rfl, sk.2, by rw [List.length_append, List.length_singleton]; omega, by omega, by rw [← ea, e3], rfl, b8.scan _, by rw [sput_ne nst.symm]; exact t8⟩
          · have e2 : attrE z (n + 1) p' fd = attrE z n (skipP z p1) (fd ++ [(nm, ("" : Str))]) := e1.trans (if_neg h5)
            have sk := skip_at nb.2
            walk_at "go"
            refine ⟨sc, z, p1, rfl, hsc4, ?_⟩
            walk_at "go"
            exact ⟨_, by omega, skipP z p1, fd ++ [(nm, ("" : Str))], n, _, rfl, sk.2, by rw [List.length_append, List.length_singleton]; omega, by omega, by rw [← ea, e2], rfl, b4.scan _, by rw [sput_ne nst.symm]; exact t4⟩
    · have hnn : hereS z p' 1 = "" ∨ hereS z p' 1 = ">" := by simpa using h0
      have e1 : attrE z (n + 1) p' fd = (upP z ">" p').map fun r => (fd, r.2) := if_pos hnn
      rw [e1] at ea
      walk_at "go"
      refine ⟨sc, z, p', ">", rfl, hsc', hp', by decide, fun hu => he (by rw [← ea, hu]; rfl) S' b'.le, fun tx p2 hu => ?_⟩
      walk_at "go"
      exact h fd p2 (by rw [← ea, hu]; rfl) _ t ht (by rw [sput_ne nst.symm]; exact t') (b'.scan p2)
end
end K19

open PySem PySem.Spec PyProof.Rows L2 Pr Dn LamX

namespace K19
open Mk
theorem name_lt {z : Str} {p : Nat} (h : nameP z p ≠ p) : p < z.length := by
  refine here_lt fun e => h ?_
  exact span_stop fun n => n.1 e
theorem raw_void {tag : Str} (h : tag ∈ rawL) : tag ∉ voids := by
  simp only [rawL, List.mem_cons, List.not_mem_nil, or_false] at h
  rcases h with rfl | rfl <;> decide
theorem raw_len {tag : Str} (h : tag ∈ rawL) : tag.length ≤ 6 := by
  simp only [rawL, List.mem_cons, List.not_mem_nil, or_false] at h
  rcases h with rfl | rfl <;> decide
theorem attrE_le {z : Str} : ∀ n p fd fd' p', p ≤ z.length → attrE z n p fd = some (fd', p') → p ≤ p' ∧ p' ≤ z.length
  | 0, _, _, _, _, _, h => by cases h
  | n + 1, p, fd, fd', p', hp, h => by
    have h : (if _ then _ else _) = _ := h
    split at h
    · obtain ⟨⟨tx, p2⟩, hu, e⟩ := Option.map_eq_some_iff.mp h
      have hu := up_at hp hu
      injection e with _ e
      subst e
      exact ⟨Nat.le_trans (Nat.le_add_right _ _) hu.1, hu.2⟩
    · split at h
      · cases h
      · have nb := name_at hp
        split at h
        · cases h
        · split at h
          · split at h
            · cases h
            · rename_i h5 h6
              have hl6 := here_len (Classical.not_not.mp h6) rfl
              obtain ⟨⟨tx, p2⟩, hu, h⟩ := Option.bind_eq_some_iff.mp h
              obtain ⟨v, hw, h⟩ := Option.bind_eq_some_iff.mp h
              have hu := up_at (by omega) hu
              have sk := skip_at hu.2
              have := attrE_le n _ _ _ _ sk.2 h
              have h1 : nameP z p + 2 + 1 ≤ p2 := hu.1
              have h2 : p2 ≤ skipP z p2 := sk.1
              have h3 : skipP z p2 ≤ p' := this.1
              exact ⟨by omega, this.2⟩
          · have sk := skip_at nb.2
            have := attrE_le n _ _ _ _ sk.2 h
            exact ⟨by omega, this.2⟩
theorem attrF_le {z : Str} {p p' : Nat} {fd : List (Str × Str)} (hp : p ≤ z.length) (h : attrF z p = some (fd, p')) : p' ≤ z.length := (attrE_le _ _ _ _ _ (skip_at hp).2 h).2
section
variable {P : Program} {w : World} {K : PySem.W.Frag} {mg : Str → Option Value} {base : Heap}
theorem ok_start_tag (T : Tx K mg) (m_Scanner_read_name : MetX P w K mg base 2 (He.ga K "Scanner") "read_name" (spD K (cName K)) []) (m_Scanner_up_to : MetX P w K mg base 1 (He.ga K "Scanner") "up_to" (spD K (cUp K)) [])
    (m_TreeBuilder_read_attributes : MetX P w K mg base 3 (He.ga K "TreeBuilder") "read_attributes" (spD K (cAttrs K)) []) (m_TreeBuilder_close_before : MetX P w K mg base 1 (He.ga K "TreeBuilder") "close_before" (spD K (cClose K)) [])
    (m_Document_make : MetX P w K mg base 3 (He.ga K "Document") "make" (spD K (cMake K)) []) (m_Document_make_1 : MetX P w K mg base 3 (He.ga K "Document") "make" (spD K (cMake K)) [.str ""]) (m_Document_append : MetX P w K mg base 6 (He.ga K "Document") "append" (spD K (cAppend K)) []) (c_start_state : CalX P w K mg base 2 "start_state" (spD K (cState K)) [])
    {f : Addr} {fd : FuncData} (F : FunD K "start_tag" "TreeBuilder.start_tag" (defArgs s_TreeBuilder_start_tag) (defBody s_TreeBuilder_start_tag) (defScope s_TreeBuilder_start_tag) [] [] f fd) : FnOk P w K mg base (L2.CX P w) 8 f fd ["self"] (spD K (cStep K startF)) := by
  refine dfn 5 F sc_TreeBuilder_start_tag (fun ds S q e h => ?_) rfl (fun cdv A0 outer s H E e hr => ⟨_, (dss_cons (ds_fldaug (K := K) rfl (fd_Scanner_place T) in_addD (de_fld rfl (fd_TreeBuilder_scanner T) (dv (pv 0))) de_int)
  (dss_cons (ds_set (i := 1) sc_TreeBuilder_start_tag.nd rfl (Or.inl rfl) (de_meth0 (nm := nm_Scanner) rfl m_Scanner_read_name (by decide +kernel) dfl_nil hr (by decide) paX (de_fld rfl (fd_TreeBuilder_scanner T) (dv (pv 0)))))
  (dss_cons (ds_set (i := 2) sc_TreeBuilder_start_tag.nd rfl (Or.inl rfl) (de_meth0 (nm := nm_TreeBuilder) rfl m_TreeBuilder_read_attributes (by decide +kernel) dfl_nil hr (by decide) paX (dv (pv 0))))
  (dss_cons (ds_if (dt_cmp (od_eq rfl (hU_of hr)) (dv (pv 1)) de_str) (dss_one (dr_raise (C := He.ga K "MarkupError") PySem.F.excBase_ValueError T.x_MarkupError.1 T.g_MarkupError T.x_MarkupError.2.1 (raises_own T.x_MarkupError.2.2.1 T.x_MarkupError.2.2.2) rfl)) dss_nil)
  (dss_cons (ds_expr (de_meth (nm := nm_TreeBuilder) rfl m_TreeBuilder_close_before (by decide +kernel) dfl_nil hr (by decide) paX (dv (pv 0)) (da_cons (dv (pv 1)) da_nil)))
  (dss_cons (ds_if (dt_cmp od_ge (de_callB (cd_len rfl) (by rfl) T.b_len (by decide +kernel) (da_cons (de_fld rfl (fd_TreeBuilder_open_nodes T) (dv (pv 0))) da_nil)) (de_gcI rfl T.g_MOST_DEEP)) (dss_one (dr_raise (C := He.ga K "MarkupError") PySem.F.excBase_ValueError T.x_MarkupError.1 T.g_MarkupError T.x_MarkupError.2.1 (raises_own T.x_MarkupError.2.2.1 T.x_MarkupError.2.2.2) rfl)) dss_nil)
  (dss_cons (ds_set (i := 3) sc_TreeBuilder_start_tag.nd rfl (Or.inl rfl) (de_meth (nm := nm_Document) rfl m_Document_make_1 (by decide +kernel) (df_Document_make_1) hr (by decide) paX (de_fld rfl (fd_TreeBuilder_document T) (dv (pv 0))) (da_cons (dv (pv 1)) da_nil)))
  (dss_cons (ds_fld rfl (fd_Node_attributes T) (dv (pv 3)) (dv (pv 2)))
  (dss_cons (ds_expr (de_call rfl c_start_state dfl_nil hr (by decide) rfl paX (da_cons (dv (pv 3)) da_nil)))
  (dss_cons (ds_expr (de_meth (nm := nm_Document) rfl m_Document_append (by decide +kernel) dfl_nil hr (by decide) paX (de_fld rfl (fd_TreeBuilder_document T) (dv (pv 0))) (da_cons (de_ix rfl (de_fld rfl (fd_TreeBuilder_open_nodes T) (dv (pv 0))) (de_neg de_int)) (da_cons (dv (pv 3)) da_nil))))
  (dss_one (ds_if (dt_cmp (od_in rfl (hW_of hr)) (dv (pv 1)) (de_gcT rfl T.g_RAW (rep_tup T.t_RAW))) (dss_cons (ds_set (i := 4) sc_TreeBuilder_start_tag.nd rfl (Or.inl rfl) (de_meth (nm := nm_Scanner) rfl m_Scanner_up_to (by decide +kernel) dfl_nil hr (by decide) paX (de_fld rfl (fd_TreeBuilder_scanner T) (dv (pv 0))) (da_cons (de_joined (.cons de_str (.cons (de_fmt (dv (pv 1))) (.cons de_str .nil)))) da_nil)))
  (dss_one (ds_if (dt_cmp (od_ne rfl (hU_of hr)) (dv (pv 4)) de_str) (dss_one (ds_expr (de_meth (nm := nm_Document) rfl m_Document_append (by decide +kernel) dfl_nil hr (by decide) paX (de_fld rfl (fd_TreeBuilder_document T) (dv (pv 0))) (da_cons (dv (pv 3)) (da_cons (de_meth (nm := nm_Document) rfl m_Document_make (by decide +kernel) dfl_nil hr (by decide) paX (de_fld rfl (fd_TreeBuilder_document T) (dv (pv 0))) (da_cons de_non (da_cons (dv (pv 4)) da_nil))) da_nil))))) dss_nil))) (dss_one (ds_if (dt_cmp (od_notin rfl (hW_of hr)) (dv (pv 1)) (de_gcT rfl T.g_VOID (rep_tup T.t_VOID))) (dss_one (ds_expr (de_bm rfl is_ls PySem.F.plainAttrs_list PySem.F.slot_list_append PySem.F.type_list_append md_append (de_fld rfl (fd_TreeBuilder_open_nodes T) (dv (pv 0))) (da_cons (dv (pv 3)) da_nil)))) dss_nil)))))))))))))), fun ds S q h => ?_⟩)
  · obtain ⟨_, _, _, _, _, _, _, _, _, _, rfl, _⟩ := h
    rfl
  · obtain ⟨S0, tb, sc, dc, dn, op, A, z, p, m, rfl, bs, hT0, he, h⟩ := h
    have b := bs.b
    have htb := b.htb
    have hsc := b.hsc
    walk_at "go"
    rw [show (p : Int) + 1 = ((p + 1 : Nat) : Int) by omega]
    have b1 := b.scan (p + 1)
    generalize sput S sc (scC K z (p + 1)) = S1 at b1 ⊢
    have htb1 := b1.htb
    have hsc1 := b1.hsc
    walk_at "go"
    refine ⟨sc, z, p + 1, rfl, hsc1, fun hn => he (if_pos hn) S1 b1.le, fun hn => ?_⟩
    have hlt := name_lt hn
    have nb := name_at (Nat.le_of_lt hlt)
    have hpn : p + 1 < nameP z (p + 1) := Nat.lt_of_le_of_ne nb.1 (Ne.symm hn)
    have hF : startF z p m = _ := if_neg hn
    have b2 := b1.scan (nameP z (p + 1))
    have tgl := cut_len (z := z) nb.1
    generalize cutS z (some ((p + 1 : Nat) : Int)) (some (nameP z (p + 1) : Nat)) = tag at hF tgl ⊢
    generalize sput S1 sc (scC K z (nameP z (p + 1))) = S2 at b2 ⊢
    generalize nameP z (p + 1) = p2 at hF b2 nb hpn
    have htb2 := b2.htb
    walk_at "go"
    refine ⟨S0, tb, sc, dc, dn, op, A, z, p2, m, rfl, b2, nb.2, bs.zl, fun ha => he (by rw [hF, ha]; rfl), fun fd p3 ha S3 t ht0 ht3 b3 => ?_⟩
    have p3l := attrF_le nb.2 ha
    rw [ha] at hF
    have hF : startF z p m = if tag = "html" then none else if (closeF m tag).opn.length ≥ 60 then none else startG z tag fd p3 (closeF m tag) := hF
    have htb3 := b3.htb
    walk_at "go"
    refine ift (fun h1 => ?_) (fun h1 => ?_)
    · walk_at "go"
      exact he (by rw [hF, if_pos h1]) S3 b3.le
    rw [if_neg h1] at hF
    walk_at "go"
    refine ⟨S0, tb, sc, dc, dn, op, A, z, p3, m, tag, rfl, b3, bs.w, fun S4 op4 b4 fr => ?_⟩
    have nt : ∀ x c, S2 x = some c → t ≠ x := fun x c hx e => by rw [← e, ht0] at hx; cases hx
    have ht4 : S4 t = _ := fr t _ ht3 (nt _ _ htb2) (nt _ _ b2.hop)
    have w1 : Wf (closeF m tag) := closeF_wf bs.w
    have hN1 : (closeF m tag).N.length = m.N.length := closeF_N
    generalize closeF m tag = m1 at hF b4 w1 hN1
    have htb4 := b4.htb
    have hop4 := b4.hop
    obtain ⟨v, hdc4⟩ := b4.hdc
    obtain ⟨L, hdn4, hL⟩ := b4.hdn
    walk_at "go"
    rw [List.length_map]
    refine ift (fun h2 => ?_) (fun h2 => ?_)
    · walk_at "go"
      exact he (by rw [hF, if_pos (by omega)]) S4 b4.le
    rw [if_neg (by omega)] at hF
    walk_at "go"
    have zl := bs.zl
    have n1 := bs.n1
    have pz := bs.pz
    have len4 := b4.len
    refine ⟨dc, dn, _, _, L, _, _, rfl, hdc4, hdn4, by rw [congrArg List.length hL, numD_len]; omega, fun a at_ c S5 fa fc nca fat nata natc e2 e1 e3 e5 e6 kp => ?_⟩
    obtain ⟨_, hdc2⟩ := b2.hdc
    obtain ⟨_, hdn2, _⟩ := b2.hdn
    have ndt : dn ≠ t := (nt _ _ hdn2).symm
    have ht5 : S5 t = some (.dic (dkD fd)) := kp t _ (nt _ _ hdc2) (nt _ _ hdn2) ht4
    have nta : t ≠ a := fun z => by rw [z, fa] at ht4; cases ht4
    walk_at "go"
    refine ⟨a, _, .str tag, .str "", t, c, .non, .str "", .bl false, fd, rfl, sput_same, by rw [sput_ne nta]; exact ht5, ?_⟩
    rw [sput_sput]
    have f6 : ∀ x, x ≠ a → sput S5 a (nodeC K (A.length : Nat) (.str tag) (.str "") t c .non (.str ((aGet fd "value").getD "")) (.bl (aGet fd "checked").isSome)) x = S5 x := fun x n => sput_ne n
    have e16 : sput S5 a (nodeC K (A.length : Nat) (.str tag) (.str "") t c .non (.str ((aGet fd "value").getD "")) (.bl (aGet fd "checked").isSome)) a = _ := sput_same
    generalize sput S5 a (nodeC K (A.length : Nat) (.str tag) (.str "") t c .non (.str ((aGet fd "value").getD "")) (.bl (aGet fd "checked").isSome)) = S6 at f6 e16 ⊢
    have na : ∀ x c, S4 x = some c → x ≠ a := fun x c hx e => by rw [e, fa] at hx; cases hx
    have kp6 : ∀ x cell, S4 x = some cell → x ≠ dc → x ≠ dn → S6 x = some cell := fun x cell hx n1 n2 => by rw [f6 x (na x cell hx)]; exact kp x cell n1 n2 hx
    have htb6 : S6 tb = _ := kp6 _ _ htb4 (fun z => by rw [z, hdc4] at htb4; injection htb4 with e; injection e with _ e _; exact absurd e (by decide)) (fun z => by rw [z, hdn4] at htb4; cases htb4)
    have hop6 : S6 op4 = _ := kp6 _ _ hop4 (fun z => by rw [z, hdc4] at hop4; cases hop4) (fun z => by rw [z, hdn4] at hop4; cases hop4)
    have hdc6 : S6 dc = _ := (f6 dc (na _ _ hdc4)).trans e5
    obtain ⟨tl, htl, htg, hvl⟩ := (b4.last w1).2
    walk_at "go"
    refine ⟨_, (b4.last w1).1, ?_⟩
    walk_at "go"
    obtain ⟨l, u, ll, ux⟩ := b4.up w1 (m1.opn.length - 1) (lastO m1) w1.last.1
    have mx := w1.mx
    have gt6 : S6 (He.cT K ("Document", some "place_before")).2 = some .gtb := kp6 _ _ (b4.le _ _ hT0) (fun z => by rw [z, b4.fdc] at hT0; cases hT0) (fun z => by rw [z, b4.fdn] at hT0; cases hT0)
    refine ⟨dc, _, a, rfl, gt6, b4.place w1 (w1.lt _ w1.lastM) htl hvl u (by omega) ux (by omega) (n := elemN tag fd) rfl fa (b2.f0 ht0) ndt fc (by rw [← len4]; exact e16) (by rw [f6 t nta]; exact ht5) (by rw [f6 c nca]; exact e3) ⟨v, hdc6⟩ ⟨_, (f6 dn (na _ _ hdn4)).trans e6, numD_put hL⟩ kp6 fun S7 b7 => ?_⟩
    have htb7 := b7.htb
    have hsc7 := b7.hsc
    have hop7 := b7.hop
    have hF : startF z p m = startG z tag fd p3 m1 := hF
    walk_at "go"
    refine in_tup rawL rfl ?_
    walk_at "go"
    refine ift (fun h8 => ?_) (fun h8 => ?_)
    · have rl := raw_len h8
      have hG : startG z tag fd p3 m1 = (upP z ((("</" : Str) ++ tag) ++ (">" : Str)) p3).map fun r => (r.2, if r.1 ≠ ("" : Str) then addText (pushF m1 (lastO m1) (elemN tag fd)) m1.N.length r.1 else pushF m1 (lastO m1) (elemN tag fd)) := if_pos h8
      rw [hG] at hF
      walk_at "go"
      have s2 : (("" : Str) ++ "</").length = 2 := rfl
      refine ⟨Nat.le_of_lt (size6 (by rw [s2]; omega)), ?_⟩
      walk_at "go"
      refine ⟨Nat.le_of_lt (size6 (by rw [app_len, s2, show ((">" : Str)).length = 1 from rfl]; omega)), ?_⟩
      walk_at "go"
      refine ⟨sc, z, p3, _, rfl, hsc7, p3l, by rw [app_len, app_len, s2, show ((">" : Str)).length = 1 from rfl]; omega, fun hu => he (by rw [hF]; exact congrArg _ hu) S7 b7.le, fun tx p4 hu => ?_⟩
      have hu : upP z ((("</" : Str) ++ tag) ++ (">" : Str)) p3 = some (tx, p4) := hu
      rw [hu] at hF
      have b8 := b7.scan p4
      generalize sput S7 sc (scC K z p4) = S8 at b8 ⊢
      have htb8 := b8.htb
      obtain ⟨v8, hdc8⟩ := b8.hdc
      obtain ⟨L8, hdn8, hL8⟩ := b8.hdn
      walk_at "go"
      refine iftN (fun h9 => ?_) (fun h9 => ?_)
      · have hF : startF z p m = some (p4, addText (pushF m1 (lastO m1) (elemN tag fd)) m1.N.length tx) := by rw [hF]; exact congrArg some (congrArg (Prod.mk p4) (if_pos h9))
        have w2 : Wf (pushF m1 (lastO m1) (elemN tag fd)) := w1.push (w1.lt _ w1.lastM) rfl
        have hi : m1.N.length < (pushF m1 (lastO m1) (elemN tag fd)).N.length := by rw [push_len]; exact Nat.lt_succ_self _
        have hni : nod (pushF m1 (lastO m1) (elemN tag fd)) m1.N.length = { elemN tag fd with par := some (lastO m1) } := nod_at push_new
        have ha8 : ad (A ++ [(a, t, c)]) m1.N.length = a := by
          rw [← len4]
          exact ad_at (by rw [List.getElem?_append_right (Nat.le_refl _), Nat.sub_self]; rfl)
        obtain ⟨l2, u2, ll2, ux2⟩ := b8.up w2 (m1.opn.length - 1) (lastO m1) w1.last.1
        obtain ⟨_, _, _, hn8, _⟩ := b8.at hi
        rw [hni] at hn8
        have u8 : Up K S8 (ad (A ++ [(a, t, c)]) m1.N.length) ((m1.N.length :: l2).map (ad (A ++ [(a, t, c)]))) := .step hn8 u2
        have len8 := b8.len
        have pl2 : (pushF m1 (lastO m1) (elemN tag fd)).N.length = m1.N.length + 1 := push_len
        have gt8 := b8.le _ _ hT0
        walk_at "go"
        refine ⟨dc, dn, _, _, L8, _, _, rfl, hdc8, hdn8, by rw [congrArg List.length hL8, numD_len]; omega, fun a2 at2 c2 S9 fa2 fc2 nca2 fat2 nata2 natc2 e22 e21 e23 e25 e26 kp2 => ?_⟩
        walk_at "go"
        refine ⟨dc, a, a2, rfl, kp2 _ _ (fun z => by rw [z, b8.fdc] at hT0; cases hT0) (fun z => by rw [z, b8.fdn] at hT0; cases hT0) gt8, ?_⟩
        have hpl := b8.place w2 hi (show (nod (pushF m1 (lastO m1) (elemN tag fd)) m1.N.length).tag = some tag by rw [hni]; rfl) (raw_void h8) u8 (by rw [List.length_cons]; omega) (fun x hx => (List.mem_cons.mp hx).elim (fun e => by rw [e]; exact hi) (ux2 x)) (by omega) (n := textN tx) rfl (S1 := S9) fa2 (b8.f0 fat2) (fun z => by rw [← z, hdn8] at fat2; cases fat2) fc2 (by rw [← len8]; exact e21) e22 e23 ⟨v8, e25⟩ ⟨_, e26, numD_put hL8⟩ (fun x cell hx n1 n2 => kp2 x cell n1 n2 hx) (go := fun S' => q .non S') (fun S3 b9 => h _ _ hF S3 op4 _ b9)
        rw [ha8] at hpl
        exact hpl
      · have hF : startF z p m = some (p4, pushF m1 (lastO m1) (elemN tag fd)) := by rw [hF]; exact congrArg some (congrArg (Prod.mk p4) (if_neg (fun n => n h9)))
        walk_at "go"
        exact h _ _ hF S8 op4 _ b8
    · have hG : startG z tag fd p3 m1 = some (p3, if tag ∉ voids then { pushF m1 (lastO m1) (elemN tag fd) with opn := m1.opn ++ [m1.N.length] } else pushF m1 (lastO m1) (elemN tag fd)) := if_neg h8
      rw [hG] at hF
      walk_at "go"
      refine nin_tup voids rfl ?_
      walk_at "go"
      refine iftN (fun h9 => ?_) (fun h9 => ?_)
      · rw [if_pos h9] at hF
        walk_at "go"
        refine ⟨by rw [List.length_map]; exact size6 (by have := w1.mx; show m1.opn.length ≤ _; omega), ?_⟩
        have hro : refsO (A ++ [(a, t, c)]) (pushF m1 (lastO m1) (elemN tag fd)).opn ++ [.ref a] = refsO (A ++ [(a, t, c)]) (m1.opn ++ [m1.N.length]) := by
          rw [show refsO (A ++ [(a, t, c)]) (m1.opn ++ [m1.N.length]) = refsO (A ++ [(a, t, c)]) m1.opn ++ [.ref (ad (A ++ [(a, t, c)]) m1.N.length)] from List.map_append, ← len4, ad_at (show (A ++ [(a, t, c)])[A.length]? = some (a, t, c) by rw [List.getElem?_append_right (Nat.le_refl _), Nat.sub_self]; rfl)]
          rfl
        rw [hro]
        walk_at "go"
        exact h _ _ hF _ op4 _ (b7.opn _)
      · rw [if_neg (fun n => n h9)] at hF
        walk_at "go"
        exact h _ _ hF S7 op4 _ b7
end
end K19

open PySem PySem.Spec PyProof.Rows L2 Pr Dn LamX

namespace K19
open Mk
theorem addText_ok {m : PM} (w : Wf m) {pa : Nat} (hp : pa < m.N.length) {t : Str} : Wf (addText m pa t) ∧ (addText m pa t).N.length = m.N.length + 1 := ⟨w.push hp rfl, push_len⟩
theorem text_ok {z : Str} {p p' : Nat} {m m' : PM} (w : Wf m) (hp : p < z.length) (h1 : hereS z p 1 ≠ "<") (h : textF z p m = some (p', m')) : Wf m' ∧ p < p' ∧ p' ≤ z.length ∧ m'.N.length + p ≤ m.N.length + p' := by
  unfold textF at h
  obtain ⟨t, ht, e⟩ := Option.map_eq_some_iff.mp h
  injection e with e1 e2
  have el := end_at hp h1
  rw [e1] at el
  subst e2
  split
  · have := addText_ok w (w.lt _ w.lastM) (t := t)
    exact ⟨this.1, el.1, el.2, by rw [this.2]; omega⟩
  · exact ⟨w, el.1, el.2, by omega⟩
theorem end_ok {z : Str} {p p' : Nat} {m m' : PM} (w : Wf m) (hp : p + 2 ≤ z.length) (h : endF z p m = some (p', m')) : Wf m' ∧ p < p' ∧ p' ≤ z.length ∧ m'.N.length + p ≤ m.N.length + p' := by
  unfold endF at h
  have nb := name_at hp
  have sk := skip_at nb.2
  split at h
  · cases h
  · split at h
    · cases h
    · rename_i h1 h2
      have hl := here_len (Classical.not_not.mp h2) rfl
      split at h
      · cases h
      · rename_i h3
        injection h with h
        injection h with e1 e2
        subst e1
        subst e2
        refine ⟨w.take ?_, by omega, by omega, by show m.N.length + p ≤ _; omega⟩
        generalize cutS z (some ((p + 2 : Nat) : Int)) (some (nameP z (p + 2) : Nat)) = tg at h3
        cases hpl : placesF m tg with
        | nil => exact absurd hpl h3
        | cons x l =>
          have hm : (x :: l).getLastD 0 ∈ placesF m tg := by
            rw [hpl, List.getLastD_eq_getLast?, List.getLast?_eq_some_getLast (List.cons_ne_nil _ _)]
            exact List.getLast_mem _
          have := (List.mem_filter.mp hm).2
          rw [Bool.and_eq_true, decide_eq_true_eq] at this
          exact this.1
theorem start_ok {z : Str} {p p' : Nat} {m m' : PM} (w : Wf m) (h : startF z p m = some (p', m')) : Wf m' ∧ p < p' ∧ p' ≤ z.length ∧ m'.N.length + p ≤ m.N.length + p' := by
  unfold startF at h
  split at h
  · cases h
  · rename_i hn
    have hlt := name_lt hn
    have nb := name_at (Nat.le_of_lt hlt)
    have hpn : p + 1 < nameP z (p + 1) := Nat.lt_of_le_of_ne nb.1 (Ne.symm hn)
    obtain ⟨⟨fd, p3⟩, ha, h⟩ := Option.bind_eq_some_iff.mp h
    have al := attrE_le _ _ _ _ _ (skip_at nb.2).2 ha
    have sk := skip_at nb.2
    generalize cutS z (some ((p + 1 : Nat) : Int)) (some (nameP z (p + 1) : Nat)) = tag at h
    have h : (if _ then _ else _) = _ := h
    split at h
    · cases h
    · split at h
      · cases h
      · rename_i h60
        have w1 : Wf (closeF m tag) := closeF_wf w
        have hN1 : (closeF m tag).N.length = m.N.length := closeF_N
        generalize closeF m tag = m1 at h h60 w1 hN1
        have h : startG z tag fd p3 m1 = some (p', m') := h
        unfold startG at h
        have lp := w1.lt _ w1.lastM
        have w2 : Wf (pushF m1 (lastO m1) (elemN tag fd)) := w1.push lp rfl
        have pl2 : (pushF m1 (lastO m1) (elemN tag fd)).N.length = m1.N.length + 1 := push_len
        split at h
        · obtain ⟨⟨tx, p4⟩, hu, e⟩ := Option.map_eq_some_iff.mp h
          have up := up_at al.2 hu
          injection e with e1 e2
          have e1 : p4 = p' := e1
          subst e1
          subst e2
          have up1 : p3 ≤ p4 := Nat.le_trans (Nat.le_add_right _ _) up.1
          split
          · have := addText_ok w2 (pa := m1.N.length) (by rw [pl2]; exact Nat.lt_succ_self _) (t := tx)
            exact ⟨this.1, by omega, up.2, by rw [this.2]; omega⟩
          · exact ⟨w2, by omega, up.2, by omega⟩
        · injection h with h
          injection h with e1 e2
          subst e1
          subst e2
          split
          · rename_i hv
            exact ⟨w1.open_ (by omega) rfl hv rfl, by omega, al.2, by show (pushF m1 (lastO m1) (elemN tag fd)).N.length + p ≤ _; omega⟩
          · exact ⟨w2, by omega, al.2, by omega⟩
def cBuild (K : PySem.W.Frag) : DSp := fun ds S q e => ∃ S0 tb sc dc dn op A z, ds = [.ref tb] ∧ Bs K S0 S tb sc dc dn op A z 0 rootM ∧ S0 (He.cT K ("Document", some "place_before")).2 = some .gtb ∧ (parseF z = none → ∀ S', Le S0 S' → e (He.ga K "MarkupError") S') ∧ ∀ m', parseF z = some m' → ∀ S' op' A' p', Bld K S0 S' tb sc dc dn op' A' z p' m' → Wf m' → q (.ref dc) S'
def cParse (K : PySem.W.Frag) : DSp := fun ds S q e => ∃ z, ds = [.str z] ∧ z.length ≤ 900000 ∧ S (He.cT K ("Document", some "place_before")).2 = some .gtb ∧ (parseF z = none → ∀ S', Le S S' → e (He.ga K "MarkupError") S') ∧ ∀ m', parseF z = some m' → ∀ S' tb sc dc dn op A p, Bld K S S' tb sc dc dn op A z p m' → Wf m' → q (.ref dc) S'
section
variable {P : Program} {w : World} {K : PySem.W.Frag} {mg : Str → Option Value} {base : Heap}
theorem ok_build (T : Tx K mg) (m_Scanner_here : MetX P w K mg base 1 (He.ga K "Scanner") "here" (spD K (cHere K)) []) (m_Scanner_here_1 : MetX P w K mg base 1 (He.ga K "Scanner") "here" (spD K (cHere K)) [.int 1]) (m_Scanner_up_to : MetX P w K mg base 1 (He.ga K "Scanner") "up_to" (spD K (cUp K)) [])
    (m_TreeBuilder_end_tag : MetX P w K mg base 3 (He.ga K "TreeBuilder") "end_tag" (spD K (cStep K endF)) []) (m_TreeBuilder_start_tag : MetX P w K mg base 8 (He.ga K "TreeBuilder") "start_tag" (spD K (cStep K startF)) []) (m_TreeBuilder_text_run : MetX P w K mg base 8 (He.ga K "TreeBuilder") "text_run" (spD K (cStep K textF)) [])
    {f : Addr} {fd : FuncData} (F : FunD K "build" "TreeBuilder.build" (defArgs s_TreeBuilder_build) (defBody s_TreeBuilder_build) (defScope s_TreeBuilder_build) [] [] f fd) : FnOk P w K mg base (L2.CX P w) 9 f fd ["self"] (spD K (cBuild K)) := by
  refine dfn 1 F sc_TreeBuilder_build (fun ds S q e h => ?_) rfl (fun cdv A0 outer s H E e hr => ⟨_, (dss_cons (ds_while poX (dt_cmp (od_ne rfl (hU_of hr)) (de_meth0 (nm := nm_Scanner) rfl m_Scanner_here_1 (by decide +kernel) (df_Scanner_here_1) hr (by decide) paX (de_fld rfl (fd_TreeBuilder_scanner T) (dv (pv 0)))) de_str) (dss_one (ds_if (dt_cmp (od_eq rfl (hU_of hr)) (de_meth (nm := nm_Scanner) rfl m_Scanner_here (by decide +kernel) dfl_nil hr (by decide) paX (de_fld rfl (fd_TreeBuilder_scanner T) (dv (pv 0))) (da_cons de_int da_nil)) de_str) (dss_cons (ds_fldaug (K := K) rfl (fd_Scanner_place T) in_addD (de_fld rfl (fd_TreeBuilder_scanner T) (dv (pv 0))) de_int)
  (dss_one (ds_expr (de_meth (nm := nm_Scanner) rfl m_Scanner_up_to (by decide +kernel) dfl_nil hr (by decide) paX (de_fld rfl (fd_TreeBuilder_scanner T) (dv (pv 0))) (da_cons de_str da_nil))))) (dss_one (ds_if (dt_cmp (od_eq rfl (hU_of hr)) (de_meth (nm := nm_Scanner) rfl m_Scanner_here (by decide +kernel) dfl_nil hr (by decide) paX (de_fld rfl (fd_TreeBuilder_scanner T) (dv (pv 0))) (da_cons de_int da_nil)) de_str) (dss_one (ds_expr (de_meth0 (nm := nm_TreeBuilder) rfl m_TreeBuilder_end_tag (by decide +kernel) dfl_nil hr (by decide) paX (dv (pv 0))))) (dss_one (ds_if (dt_cmp (od_eq rfl (hU_of hr)) (de_meth0 (nm := nm_Scanner) rfl m_Scanner_here_1 (by decide +kernel) (df_Scanner_here_1) hr (by decide) paX (de_fld rfl (fd_TreeBuilder_scanner T) (dv (pv 0)))) de_str) (dss_one (ds_expr (de_meth0 (nm := nm_TreeBuilder) rfl m_TreeBuilder_start_tag (by decide +kernel) dfl_nil hr (by decide) paX (dv (pv 0))))) (dss_one (ds_expr (de_meth0 (nm := nm_TreeBuilder) rfl m_TreeBuilder_text_run (by decide +kernel) dfl_nil hr (by decide) paX (dv (pv 0))))))))))))
  (dss_one (ds_ret (de_fld rfl (fd_TreeBuilder_document T) (dv (pv 0)))))), fun ds S q h => ?_⟩)
  · obtain ⟨_, _, _, _, _, _, _, _, rfl, _⟩ := h
    rfl
  · obtain ⟨S0, tb, sc, dc, dn, op, A, z, rfl, bs, hT0, he, h⟩ := h
    walk_at "go"
    refine ⟨fun j δ S' => ∃ p m n op A, j = z.length - p ∧ Bs K S0 S' tb sc dc dn op A z p m ∧ z.length < n + p ∧ buildE z n p m = parseF z ∧ δ = [some (.ref tb)], ⟨_, 0, rootM, z.length + 1, op, A, rfl, bs, by omega, rfl, rfl⟩, fun j δ S' hI => ?_⟩
    obtain ⟨p, m, n, op', A', ej, bs', hn, eb, rfl⟩ := hI
    have b := bs'.b
    have pz := bs'.pz
    have htb := b.htb
    have hsc := b.hsc
    obtain ⟨v, hdc⟩ := b.hdc
    obtain ⟨n, rfl⟩ : ∃ n', n = n' + 1 := ⟨n - 1, by omega⟩
    walk_at "go"
    refine ⟨sc, z, p, 1, rfl, hsc, ?_⟩
    walk_at "go"
    refine iftN (fun h0 => ?_) (fun h0 => ?_)
    · have hp := here_lt h0
      have e1 : buildE z (n + 1) p m = (stepF z p m).bind fun r => buildE z n r.1 r.2 := if_neg h0
      rw [e1] at eb
      have fin : ∀ p' m', stepF z p m = some (p', m') → Wf m' ∧ p < p' ∧ p' ≤ z.length ∧ m'.N.length + p ≤ m.N.length + p' → ∀ S2 op2 A2, Bld K S0 S2 tb sc dc dn op2 A2 z p' m' → ∃ j', j' < j ∧ ∃ p m n op A, j' = z.length - p ∧ Bs K S0 S2 tb sc dc dn op A z p m ∧ z.length < n + p ∧ buildE z n p m = parseF z ∧ [some (.ref tb)] = [some (Dt.ref tb)] := fun p' m' hs ok S2 op2 A2 b2 => by
        have n1 := bs'.n1
        refine ⟨_, ?_, p', m', n, op2, A2, rfl, ⟨b2, ok.1, by omega, ok.2.2.1, bs'.zl⟩, by omega, by rw [← eb, hs]; rfl, rfl⟩
        omega
      have err : stepF z p m = none → ∀ S2, Le S0 S2 → e (He.ga K "MarkupError") S2 := fun hs => he (by rw [← eb, hs]; rfl)
      walk_at "go"
      refine ⟨sc, z, p, 4, rfl, hsc, ?_⟩
      walk_at "go"
      refine ift (fun h1 => ?_) (fun h1 => ?_)
      · have hl := here_len h1 rfl
        have hs : stepF z p m = (upP z "-->" (p + 4)).map fun r => (r.2, m) := if_pos h1
        walk_at "go"
        rw [show (p : Int) + 4 = ((p + 4 : Nat) : Int) by omega]
        have b1 := b.scan (p + 4)
        generalize sput S' sc (scC K z (p + 4)) = S1 at b1 ⊢
        have htb1 := b1.htb
        have hsc1 := b1.hsc
        walk_at "go"
        refine ⟨sc, z, p + 4, "-->", rfl, hsc1, by omega, by decide, fun hu => err (by rw [hs, hu]; rfl) S1 b1.le, fun tx p2 hu => ?_⟩
        have up := up_at (by omega) hu
        have up1 : p + 4 + 3 ≤ p2 := up.1
        walk_at "go"
        exact fin p2 m (by rw [hs, hu]; rfl) ⟨bs'.w, by omega, up.2, by omega⟩ _ _ _ (b1.scan p2)
      · have hs1 : stepF z p m = if hereS z p 2 = "</" then endF z p m else if hereS z p 1 = "<" then startF z p m else textF z p m := if_neg h1
        walk_at "go"
        refine ⟨sc, z, p, 2, rfl, hsc, ?_⟩
        walk_at "go"
        refine ift (fun h2 => ?_) (fun h2 => ?_)
        · have hl := here_len h2 rfl
          have hs : stepF z p m = endF z p m := hs1.trans (if_pos h2)
          walk_at "go"
          exact ⟨S0, tb, sc, dc, dn, op', A', z, p, m, rfl, bs', hT0, fun hu => err (hs.trans hu), fun p' m' hu S2 op2 A2 b2 => fin p' m' (hs.trans hu) (end_ok bs'.w (by omega) hu) S2 op2 A2 b2⟩
        · have hs2 : stepF z p m = if hereS z p 1 = "<" then startF z p m else textF z p m := hs1.trans (if_neg h2)
          walk_at "go"
          refine ⟨sc, z, p, 1, rfl, hsc, ?_⟩
          walk_at "go"
          refine ift (fun h3 => ?_) (fun h3 => ?_)
          · have hs : stepF z p m = startF z p m := hs2.trans (if_pos h3)
            walk_at "go"
            exact ⟨S0, tb, sc, dc, dn, op', A', z, p, m, rfl, bs', hT0, fun hu => err (hs.trans hu), fun p' m' hu S2 op2 A2 b2 => fin p' m' (hs.trans hu) (start_ok bs'.w hu) S2 op2 A2 b2⟩
          · have hs : stepF z p m = textF z p m := hs2.trans (if_neg h3)
            walk_at "go"
            exact ⟨S0, tb, sc, dc, dn, op', A', z, p, m, rfl, bs', hT0, fun hu => err (hs.trans hu), fun p' m' hu S2 op2 A2 b2 => fin p' m' (hs.trans hu) (text_ok bs'.w hp h3 hu) S2 op2 A2 b2⟩
    · have e1 : buildE z (n + 1) p m = some m := if_pos h0
      walk_at "go"
      exact h m (by rw [← eb, e1]) S' op' A' p b bs'.w
theorem ok_parse (T : Tx K mg) (k_TreeBuilder : MakX P w K mg base 6 "TreeBuilder" (He.ga K "TreeBuilder") (spD K (cTB K)) []) (m_TreeBuilder_build : MetX P w K mg base 9 (He.ga K "TreeBuilder") "build" (spD K (cBuild K)) [])
    {f : Addr} {fd : FuncData} (F : FunD K "parse_markup" "parse_markup" (defArgs s_parse_markup) (defBody s_parse_markup) (defScope s_parse_markup) [] [] f fd) : FnOk P w K mg base (L2.CX P w) 10 f fd ["text"] (spD K (cParse K)) := by
  refine dfn 1 F sc_parse_markup (fun ds S q e h => ?_) rfl (fun cdv A0 outer s H E e hr => ⟨_, (dss_one (ds_ret (de_meth0 (nm := nm_TreeBuilder) rfl m_TreeBuilder_build (by decide +kernel) dfl_nil hr (by decide) paX (de_make (nm := nm_TreeBuilder) rfl k_TreeBuilder dfl_nil hr (by decide) rfl paX (da_cons (dv (pv 0)) da_nil))))), fun ds S q h => ?_⟩)
  · obtain ⟨_, rfl, _⟩ := h
    rfl
  · obtain ⟨z, rfl, zl, hT0, he, h⟩ := h
    walk_at "go"
    intro tb htb
    refine ⟨tb, z, S, rfl, sput_same, htb, Le.refl.put htb, fun S1 sc dc dn op A b => ⟨rfl, ?_⟩⟩
    have htb1 := b.htb
    walk_at "go"
    exact ⟨S, tb, sc, dc, dn, op, A, z, rfl, ⟨b, wf_root, Nat.le_refl _, Nat.zero_le _, zl⟩, hT0, he, fun m' hm S2 op2 A2 p2 b2 w2 => h m' hm S2 tb sc dc dn op2 A2 p2 b2 w2⟩
end
end K19

open PySem PySem.Spec PyProof.Rows L2 Pr Dn LamX

namespace K19
open Mk
/-- a document whose tree is T -/
structure Doc (K : PySem.W.Frag) (S : Store) (dc : Addr) (A : List Tri) (T : Tr) : Prop where
  hdc : ∃ dn v, S dc = some (docC K dn (A.length : Nat) [.ref (ad A 0), .int v]) ∧ S dn = some (.dic (numD A))
  len : A.length = size T
  nds : ∀ i n a t c, (flat 0 none T)[i]? = some n → A[i]? = some (a, t, c) → S a = some (nodeC K (i : Nat) (tagD n.tag) (.str n.text) t c (parO A n.par) (.str n.val) (.bl n.chk)) ∧ S t = some (.dic (dkD n.attrs)) ∧ S c = some (.lst (refsO A n.kids))
  sz : size T ≤ 900
theorem Doc.le {K : PySem.W.Frag} {S S' : Store} {dc : Addr} {A : List Tri} {T : Tr} (h : Doc K S dc A T) (le : Le S S') : Doc K S' dc A T := by
  obtain ⟨dn, v, h1, h2⟩ := h.hdc
  exact ⟨⟨dn, v, le _ _ h1, le _ _ h2⟩, h.len, fun i n a t c hn hA => by
    obtain ⟨g1, g2, g3⟩ := h.nds i n a t c hn hA
    exact ⟨le _ _ g1, le _ _ g2, le _ _ g3⟩, h.sz⟩
theorem Doc.of {K : PySem.W.Frag} {S0 S : Store} {tb sc dc dn op : Addr} {A : List Tri} {z : Str} {p : Nat} {T : Tr} {o : List Nat} (b : Bld K S0 S tb sc dc dn op A z p ⟨flat 0 none T, o⟩) (hs : size T ≤ 900) : Doc K S dc A T := by
  obtain ⟨v, h1⟩ := b.hdc
  obtain ⟨L, h2, rfl⟩ := b.hdn
  exact ⟨⟨dn, v, h1, h2⟩, by rw [b.len]; exact flat_len _ _ _, b.nds, hs⟩
section
variable {K : PySem.W.Frag} {S : Store} {dc : Addr} {A : List Tri} {T : Tr}
theorem Doc.at (h : Doc K S dc A T) {j : Nat} {u : Tr} {ab : Ab} (hj : (j, u, ab) ∈ pre 0 [] T) : ∃ t c, S (ad A j) = some (nodeC K (j : Nat) (tagD (headN j (parN ab) u).tag) (.str (headN j (parN ab) u).text) t c (parO A (parN ab)) (.str (headN j (parN ab) u).val) (.bl (headN j (parN ab) u).chk)) ∧ S t = some (.dic (dkD (headN j (parN ab) u).attrs)) ∧ S c = some (.lst (refsO A (headN j (parN ab) u).kids)) := by
  have hl := pre_lt hj
  obtain ⟨⟨a, t, c⟩, ha⟩ : ∃ r, A[j]? = some r := ⟨_, List.getElem?_eq_getElem (by rw [h.len]; exact hl)⟩
  obtain ⟨h1, h2, h3⟩ := h.nds j _ a t c (pre_flat hj) ha
  rw [ad_at ha]
  refine ⟨t, c, ?_, h2, h3⟩
  rw [show parO A (parN ab) = parO A (headN j (parN ab) u).par from by cases u <;> rfl]
  exact h1
theorem Doc.el (h : Doc K S dc A T) {j : Nat} {tag : Str} {fd : List (Str × Str)} {ch : List Tr} {ab : Ab} (hj : (j, Tr.el tag fd ch, ab) ∈ pre 0 [] T) : ∃ t c val chk, S (ad A j) = some (nodeC K (j : Nat) (.str tag) (.str "") t c (parO A (parN ab)) (.str val) (.bl chk)) ∧ S t = some (.dic (dkD fd)) ∧ S c = some (.lst (refsO A (nums (j + 1) ch))) := by
  obtain ⟨t, c, h1, h2, h3⟩ := h.at hj
  exact ⟨t, c, _, _, h1, h2, h3⟩
theorem Doc.tx (h : Doc K S dc A T) {j : Nat} {z : Str} {ab : Ab} (hj : (j, Tr.tx z, ab) ∈ pre 0 [] T) : ∃ t c, S (ad A j) = some (nodeC K (j : Nat) .non (.str z) t c (parO A (parN ab)) (.str "") (.bl false)) ∧ S t = some (.dic []) ∧ S c = some (.lst []) := by
  obtain ⟨t, c, h1, h2, h3⟩ := h.at hj
  exact ⟨t, c, h1, h2, h3⟩
theorem Doc.up (h : Doc K S dc A T) : ∀ (n : Nat) (ab : Ab) (j : Nat) (u : Tr), ab.length = n → (j, u, ab) ∈ pre 0 [] T → Up K S (ad A j) ((j :: (ab.map (·.1)).reverse).map (ad A))
  | 0, ab, j, u, hn, hj => by
    obtain rfl := List.length_eq_zero_iff.mp hn
    obtain ⟨t, c, h1, _⟩ := h.at hj
    exact .top h1
  | n + 1, ab, j, u, hn, hj => by
    obtain ⟨ab', a, rfl⟩ : ∃ ab' a, ab = ab' ++ [a] := ⟨ab.dropLast, ab.getLast (fun e => by rw [e] at hn; cases hn), (List.dropLast_concat_getLast _).symm⟩
    obtain ⟨ha, _⟩ := pre_up hj
    have ih := h.up n ab' a.1 a.2 (by rw [List.length_append, List.length_singleton] at hn; omega) ha
    obtain ⟨t, c, h1, _⟩ := h.at hj
    have ep : parN (ab' ++ [a]) = some a.1 := by unfold parN; rw [List.getLast?_append]; rfl
    rw [ep] at h1
    rw [List.map_append, List.reverse_append]
    exact .step h1 ih
end
def cAll (K : PySem.W.Frag) : DSp := fun ds S q _ => ∃ dc A T j u ab, ds = [.ref (ad A j)] ∧ Doc K S dc A T ∧ (j, u, ab) ∈ pre 0 [] T ∧ ∀ S' p, Le S S' → S p = none → S' p = some (.lst (refsO A (List.range' j (size u)))) → q (.ref p) S'
section
variable {P : Program} {w : World} {K : PySem.W.Frag} {mg : Str → Option Value} {base : Heap}
theorem ok_all (T : Tx K mg) {f : Addr} {fd : FuncData} (F : FunD K "all_nodes" "Node.all_nodes" (defArgs s_Node_all_nodes) (defBody s_Node_all_nodes) (defScope s_Node_all_nodes) [] [] f fd) : FnOk P w K mg base (L2.CX P w) 1 f fd ["self"] (spD K (cAll K)) := by
  refine dfn 4 F sc_Node_all_nodes (fun ds S q e h => ?_) rfl (fun cdv A0 outer s H E e hr => ⟨_, (dss_cons (ds_par (i := 1) (j := 2) (by rfl) sc_Node_all_nodes.nd rfl rfl (by decide) rfl rfl (da_cons (de_lstO da_nil) (da_cons (de_lstO (da_cons (dv (pv 0)) da_nil)) da_nil)) (by rfl))
  (dss_cons (ds_while poX (dt_cmp (od_neN (hW_of hr)) (dv (pv 2)) (de_lst da_nil)) (dss_cons (ds_set (i := 3) sc_Node_all_nodes.nd rfl (Or.inl rfl) (de_bm rfl is_ls PySem.F.plainAttrs_list PySem.F.slot_list_pop PySem.F.type_list_pop md_pop (dv (pv 2)) (da_cons de_int da_nil)))
  (dss_cons (ds_expr (de_bm rfl is_ls PySem.F.plainAttrs_list PySem.F.slot_list_append PySem.F.type_list_append md_append (dv (pv 1)) (da_cons (dv (pv 3)) da_nil)))
  (dss_one (ds_set (i := 2) sc_Node_all_nodes.nd rfl (Or.inl rfl) (de_op od_addO (de_fld rfl (fd_Node_children T) (dv (pv 3))) (dv (pv 2))))))))
  (dss_one (ds_ret (dv (pv 1)))))), fun ds S q h => ?_⟩)
  · obtain ⟨_, _, _, _, _, _, rfl, _⟩ := h
    rfl
  · obtain ⟨dc, A, T0, j, u, ab, rfl, hd, hj, h⟩ := h
    walk_at "go"
    intro pf hpf
    walk_at "go"
    intro pl hpl
    obtain ⟨nfl, hpl⟩ := sput_free hpl
    have le0 : Le S (sput (sput S pf (.lst [])) pl (.lst [.ref (ad A j)])) := (Le.refl.put hpf).put hpl
    walk_at "go"
    refine ⟨fun n δ S' => ∃ (X : List Nat) (us : Ab) (pl : Addr) (u3 : Option Dt), S' pf = some (.lst (refsO A X)) ∧ S' pl = some (.lst (refsO A (us.map (·.1)))) ∧ pl ≠ pf ∧ S pl = none ∧ (∀ x ∈ us, ∃ ab, (x.1, x.2, ab) ∈ pre 0 [] T0) ∧ X ++ us.flatMap (fun x => List.range' x.1 (size x.2)) = List.range' j (size u) ∧ n = (us.map fun x => size x.2).sum ∧ Le S S' ∧ δ = [some (.ref (ad A j)), some (.ref pf), some (.ref pl), u3],
      ⟨size u, [], [(j, u)], pl, _, by rw [sput_ne nfl.symm, sput_same]; rfl, sput_same, nfl, hpl, fun x hx => by rw [List.mem_singleton.mp hx]; exact ⟨ab, hj⟩, by simp, by simp, le0, rfl⟩, fun n δ S' hI => ?_⟩
    obtain ⟨X, us, pl1, u3, h1, h2, nlf, hl0, hu, hX, hn, le1, rfl⟩ := hI
    cases us with
    | nil =>
      have eX : X = List.range' j (size u) := by rw [← hX, List.flatMap_nil, List.append_nil]
      subst eX
      walk_at "go"
      rw [show (!(refsO A (List.map (fun x => x.1) ([] : Ab))).isEmpty) = false from rfl]
      walk_at "go"
      exact h S' pf le1 hpf h1
    | cons x us =>
      walk_at "go"
      rw [show (!(refsO A (List.map (fun x => x.1) (x :: us))).isEmpty) = true from rfl]
      rw [show refsO A (List.map (fun x => x.1) (x :: us)) = .ref (ad A x.1) :: refsO A (us.map (·.1)) from rfl] at h2
      obtain ⟨abx, hx⟩ := hu x List.mem_cons_self
      have sz := hd.sz
      have su := pre_size hj
      have lX := congrArg List.length hX
      rw [List.length_append, List.flatMap_cons, List.length_append, List.length_range', List.length_range'] at lX
      have px := size_pos x.2
      have pz := pre_size hx
      have sk := size_kids x.2
      obtain ⟨t, c, g1, g2, g3⟩ := hd.at hx
      rw [headN_kids] at g3
      have ncf : c ≠ pf := fun e => by rw [e, hpf] at g3; cases g3
      have ncl : c ≠ pl1 := fun e => by rw [e, hl0] at g3; cases g3
      have g1 := le1 _ _ g1
      have g3 := le1 _ _ g3
      have lus : us.length ≤ (us.flatMap fun x => List.range' x.1 (size x.2)).length := by
        clear lX hX h2 hu hn
        induction us with
        | nil => exact Nat.le_refl _
        | cons y us ih =>
          rw [List.flatMap_cons, List.length_append, List.length_range', List.length_cons]
          have := size_pos y.2
          omega
      have lch : (nums (x.1 + 1) (kids x.2)).length ≤ sizeL (kids x.2) := by
        clear g3 sk
        generalize kids x.2 = c, x.1 + 1 = i
        induction c generalizing i with
        | nil => exact Nat.le_refl _
        | cons y c ih =>
          have := ih (i + size y)
          have := size_pos y
          show (nums (i + size y) c).length + 1 ≤ size y + sizeL c
          omega
      walk_at "go"
      refine ⟨⟨by decide, by rw [List.length_cons]; omega, by decide⟩, _, rfl, ?_⟩
      walk_at "go"
      refine ⟨by rw [List.length_map]; exact Nat.le_of_lt (size6 (by show _ + ((us.map (·.1)).map _).length ≤ _; rw [List.length_map, List.length_map]; omega)), ?_⟩
      intro p2 hp2
      obtain ⟨n2f, hp2⟩ := sput_free hp2
      obtain ⟨n2l, hp2⟩ := sput_free hp2
      walk_at "go"
      rw [show (Dt.ref (ad A x.1) :: refsO A (us.map (·.1))).eraseIdx (Int.toNat 0) = refsO A (us.map (·.1)) from rfl]
      have hS2 : S p2 = none := by
        cases e : S p2 with
        | none => rfl
        | some c => rw [le1 _ _ e] at hp2; cases hp2
      refine ⟨_, ?_, X ++ [x.1], kidsAt (x.1 + 1) (kids x.2) ++ us, p2, _, ?_, ?_, n2f, hS2, fun y hy => ?_, ?_, rfl, fun b c' hb => ?_, rfl⟩
      · rw [hn, List.map_append, List.sum_append, kids_sum, List.map_cons, List.sum_cons]
        omega
      · rw [sput_ne n2f.symm, sput_same, show refsO A (X ++ [x.1]) = refsO A X ++ [.ref (ad A x.1)] from List.map_append]
      · rw [sput_same, List.map_append, kidsAt_fst, show refsO A (nums (x.1 + 1) (kids x.2) ++ us.map (·.1)) = refsO A (nums (x.1 + 1) (kids x.2)) ++ refsO A (us.map (·.1)) from List.map_append]
      · rcases List.mem_append.mp hy with hy | hy
        · exact pre_kid hx hy
        · exact hu y (List.mem_cons_of_mem _ hy)
      · rw [← hX, List.flatMap_append, kids_flat, List.flatMap_cons, sk, List.append_assoc, Nat.add_comm 1, List.range'_succ]
        rfl
      · have n1 : b ≠ p2 := fun e => by rw [e, hS2] at hb; cases hb
        have n2 : b ≠ pf := fun e => by rw [e, hpf] at hb; cases hb
        have n3 : b ≠ pl1 := fun e => by rw [e, hl0] at hb; cases hb
        rw [sput_ne n1, sput_ne n2, sput_ne n3]
        exact le1 _ _ hb
end
end K19

open PySem PySem.Spec PyProof.Rows L2 Pr Dn LamX

namespace K19
open Mk
def TxOk (u : Tr) : Prop := ∀ z ∈ texts u, SOk z ∧ z.length ≤ 40
theorem TxOk.sub {T : Tr} {j : Nat} {u : Tr} {ab : Ab} (h : TxOk T) (hj : (j, u, ab) ∈ pre 0 [] T) : TxOk u := fun z hz => h z (pre_tsub hj z hz)
theorem numD_go : ∀ (A : List Tri) (n j : Nat), j < A.length → kGet ((A.zipIdx n).map fun q => ((Sum.inl (q.2 : Int) : Key), Dt.ref q.1.1)) (Sum.inl ((n + j : Nat) : Int)) = some (.ref (A.getD j (0, 0, 0)).1)
  | [], n, j, h => by cases h
  | r :: A, n, j, h => by
    rw [List.zipIdx_cons, List.map_cons]
    unfold kGet
    rw [List.find?_cons]
    cases j with
    | zero => rw [show decide (((Sum.inl ((r, n).2 : Int) : Key), Dt.ref (r, n).1.1).1 = Sum.inl ((n + 0 : Nat) : Int)) = true from decide_eq_true rfl]; rfl
    | succ j =>
      rw [show decide (((Sum.inl ((r, n).2 : Int) : Key), Dt.ref (r, n).1.1).1 = Sum.inl ((n + (j + 1) : Nat) : Int)) = false from decide_eq_false fun e => by injection e with e; omega]
      have := numD_go A (n + 1) j (by rw [List.length_cons] at h; omega)
      unfold kGet at this
      rw [show n + 1 + j = n + (j + 1) by omega] at this
      exact this
theorem numD_get {A : List Tri} {j : Nat} (h : j < A.length) : kGet (numD A) (Sum.inl (j : Int)) = some (.ref (ad A j)) := by
  have := numD_go A 0 j h
  rw [Nat.zero_add] at this
  exact this
theorem tx_filter (L : List En) : (L.filter fun x => !isEl x.2.1).map (fun x => Dt.str ((txOf x.2.1).getD "")) = (L.filterMap fun x => txOf x.2.1).map Dt.str := by
  induction L with
  | nil => rfl
  | cons x L ih =>
    obtain ⟨j, u, ab⟩ := x
    cases u with
    | tx z => exact congrArg (Dt.str z :: ·) ih
    | el a b c => exact ih
theorem refs_pre {A : List Tri} {j : Nat} {ab : Ab} {u : Tr} : refsO A (List.range' j (size u)) = (pre j ab u).map fun x => Dt.ref (ad A x.1) := by
  rw [← pre_fst u j ab]
  show (((pre j ab u).map (·.1)).map _) = _
  rw [List.map_map]
  rfl
def cCont (K : PySem.W.Frag) : DSp := fun ds S q _ => ∃ dc A T j u ab, ds = [.ref (ad A j)] ∧ Doc K S dc A T ∧ (j, u, ab) ∈ pre 0 [] T ∧ TxOk u ∧ ∀ S', Le S S' → q (.str (content u)) S'
@[reducible] def oRf (A : List Tri) (o : Option En) : Dt := match o with
  | none => .non
  | some x => .ref (ad A x.1)
def cById (K : PySem.W.Frag) : DSp := fun ds S q _ => ∃ dc A T name, ds = [.ref dc, .str name] ∧ Doc K S dc A T ∧ ∀ S', Le S S' → q (oRf A (byId T name)) S'
def cNodeOf (K : PySem.W.Frag) : DSp := fun ds S q _ => ∃ dc A T, ∃ j : Nat, ds = [.ref dc, .int j] ∧ Doc K S dc A T ∧ j < size T ∧ q (.ref (ad A j)) S
section
variable {P : Program} {w : World} {K : PySem.W.Frag} {mg : Str → Option Value} {base : Heap}
theorem Doc.isT {S : Store} {dc : Addr} {A : List Tri} {T : Tr} (h : Doc K S dc A T) {x : En} (hx : x ∈ pre 0 [] T) {q : DK} {e : DX} (h1 : isEl x.2.1 = false → q (.bl true) S) (h2 : isEl x.2.1 = true → q (.bl false) S) : cIsText K [.ref (ad A x.1)] S q e := by
  obtain ⟨j, u, ab⟩ := x
  cases u with
  | tx z =>
    obtain ⟨t, c, g1, _⟩ := h.tx hx
    exact ⟨_, _, _, _, _, _, _, _, _, rfl, g1, .inl rfl, fun _ => h1 rfl, (fun ⟨_, k⟩ => by cases k)⟩
  | el tag fd c =>
    obtain ⟨t, c, v, k, g1, _⟩ := h.el hx
    exact ⟨_, _, _, _, _, _, _, _, _, rfl, g1, .inr ⟨_, rfl⟩, (fun k => by cases k), fun _ => h2 rfl⟩
theorem ok_content (T : Tx K mg) (m_Node_all_nodes : MetX P w K mg base 1 (He.ga K "Node") "all_nodes" (spD K (cAll K)) []) (m_Node_is_text : MetX P w K mg base 1 (He.ga K "Node") "is_text" (spD K (cIsText K)) []) {f : Addr} {fd : FuncData} (F : FunD K "content" "Node.content" (defArgs s_Node_content) (defBody s_Node_content) (defScope s_Node_content) [] [] f fd) : FnOk P w K mg base (L2.CX P w) 2 f fd ["self"] (spD K (cCont K)) := by
  refine dfn 2 F sc_Node_content (fun ds S q e h => ?_) rfl (fun cdv A0 outer s H E e hr => ⟨_, (dss_one (ds_ret (de_bm rfl is_tx PySem.F.plainAttrs_str PySem.F.slot_str_join PySem.F.type_str_join (md_join rfl) de_str (da_cons (de_lc (own := [("node", 1)]) rfl sc_Node_content.nd (di_lst rfl (de_meth0 (nm := nm_Node) rfl m_Node_all_nodes (by decide +kernel) dfl_nil hr (by decide) paX (dv (pv 0)))) (blkOk_by (own := [("node", 1)]) (N := sl_Node_content) (sc := defScope s_Node_content) (by decide +kernel)) (fun _ _ _ _ _ => (gw_name (i := 1) sc_Node_content.nd rfl (Or.inl rfl) (by decide))) (fun _ _ _ _ _ => (ts_one (de_tru rfl (de_meth0 (nm := nm_Node) rfl m_Node_is_text (by decide +kernel) dfl_nil hr (by decide) passL (dv (pv 1)))))) (fun _ _ _ _ _ => (de_fld rfl (fd_Node_text T) (dv (pv 1))))) da_nil)))), fun ds S q h => ?_⟩)
  · obtain ⟨_, _, _, _, _, _, rfl, _⟩ := h
    rfl
  · obtain ⟨dc, A, T0, j, u, ab, rfl, hd, hj, tx, h⟩ := h
    obtain ⟨t0, c0, g1, _⟩ := hd.at hj
    walk_at "go"
    refine ⟨dc, A, T0, j, u, ab, rfl, hd, hj, fun S1 p le1 np hp => ?_⟩
    have hd1 := hd.le le1
    have hs := hd.sz
    have hsu := pre_size hj
    rw [refs_pre (ab := ab)] at hp
    walk_at "go"
    refine ⟨by rw [List.length_map, pre_len]; exact size6 (by omega), lc_go ?_⟩
    refine lc_choose (fun x : En => Dt.ref (ad A x.1)) (fun x => !isEl x.2.1) (fun x => Dt.str ((txOf x.2.1).getD "")) hp _ (fun x hx kY kN hY hN => ?_) ?_
    · have hx0 := pre_sub hj x hx
      obtain ⟨t, c, q1, _⟩ := hd1.at hx0
      walk_at "go"
      refine hd1.isT hx0 (fun he => ?_) (fun he => ?_)
      · walk_at "go"
        obtain ⟨jx, v, abx⟩ := x
        cases v with
        | tx z => exact hY rfl
        | el a b c => cases he
      · walk_at "go"
        exact hN (by rw [he]; rfl)
    · walk_at "go"
      have tl := texts_len u
      refine join_go (ys := texts u) (k := 40) (.inr (by rw [tx_filter, pre_texts])) SOk.empty tx (by show _ * (40 + 0) ≤ _; omega) ?_
      exact h S1 le1
theorem ok_by_id (T : Tx K mg) (m_Node_all_nodes : MetX P w K mg base 1 (He.ga K "Node") "all_nodes" (spD K (cAll K)) []) (m_Node_is_text : MetX P w K mg base 1 (He.ga K "Node") "is_text" (spD K (cIsText K)) []) (m_Node_attribute : MetX P w K mg base 1 (He.ga K "Node") "attribute" (spD K (cAttr K)) []) {f : Addr} {fd : FuncData} (F : FunD K "by_id" "Document.by_id" (defArgs s_Document_by_id) (defBody s_Document_by_id) (defScope s_Document_by_id) [] [] f fd) : FnOk P w K mg base (L2.CX P w) 2 f fd ["self", "name"] (spD K (cById K)) := by
  refine dfn 3 F sc_Document_by_id (fun ds S q e h => ?_) rfl (fun cdv A0 outer s H E e hr => ⟨_, (dss_cons (ds_for poX rfl (di_lst rfl (de_meth0 (nm := nm_Node) rfl m_Node_all_nodes (by decide +kernel) dfl_nil hr (by decide) paX (de_fld rfl (fd_Document_root T) (dv (pv 0))))) (dg_name (i := 2) sc_Document_by_id.nd rfl (Or.inl rfl)) (dss_one (ds_if (PW.pt (dt_and (dt_not (de_tru rfl (de_meth0 (nm := nm_Node) rfl m_Node_is_text (by decide +kernel) dfl_nil hr (by decide) paX (dv (pv 2))))) (pw_and1 (dt_cmp (od_eq rfl (hU_of hr)) (de_meth (nm := nm_Node) rfl m_Node_attribute (by decide +kernel) dfl_nil hr (by decide) paX (dv (pv 2)) (da_cons de_str da_nil)) (dv (pv 1)))))) (dss_one (ds_ret (dv (pv 2)))) dss_nil)))
  (dss_one (ds_ret de_non))), fun ds S q h => ?_⟩)
  · obtain ⟨_, _, _, _, rfl, _⟩ := h
    rfl
  · obtain ⟨dc, A, T0, name, rfl, hd, h⟩ := h
    obtain ⟨dn, v, hdc, _⟩ := hd.hdc
    have h0 := pre_head T0 0 []
    obtain ⟨t0, c0, g1, _⟩ := hd.at h0
    walk_at "go"
    refine ⟨dc, A, T0, 0, T0, [], rfl, hd, h0, fun S1 p le1 np hp => ?_⟩
    have hd1 := hd.le le1
    rw [refs_pre (ab := [])] at hp
    walk_at "go"
    refine forGo_at (fun x : En => Dt.ref (ad A x.1)) (pre 0 [] T0) (fun i δ S2 => S2 = S1 ∧ ((pre 0 [] T0).take i).find? (fun x => idIs name x.2.1) = none ∧ ∃ u2, δ = [some (.ref dc), some (.str name), u2]) (fun i δ S' hI => ?_) (fun i x δ S' hx hI nx2 kk => ?_) (fun δ S' hI => ?_) ⟨rfl, rfl, _, rfl⟩
    · obtain ⟨rfl, _⟩ := hI
      exact hp
    · obtain ⟨rfl, hi, u2, rfl⟩ := hI
      obtain ⟨t, c, q1, q2, _⟩ := hd1.at (List.mem_of_getElem? hx)
      walk_at "go"
      refine hd1.isT (List.mem_of_getElem? hx) (fun he => ?_) (fun he => ?_)
      · walk_at "go"
        obtain ⟨jx, v, abx⟩ := x
        cases v with
        | el a b c => cases he
        | tx z =>
          refine kk _ _ ⟨rfl, ?_, _, rfl⟩
          rw [List.take_add_one, hx, List.find?_append, hi]
          rfl
      · obtain ⟨jx, v, abx⟩ := x
        cases v with
        | tx z => cases he
        | el a fd2 c2 =>
          have nope : aGet fd2 "id" ≠ some name → ∀ u, nx2 [some (.ref dc), some (.str name), u] S' := fun hne u => by
            refine kk _ _ ⟨rfl, ?_, _, rfl⟩
            rw [List.take_add_one, hx, List.find?_append, hi]
            show List.find? (fun x : En => idIs name x.2.1) [(jx, Tr.el a fd2 c2, abx)] = none
            rw [List.find?_cons, show idIs name (Tr.el a fd2 c2) = false from decide_eq_false hne]
            rfl
          walk_at "go"
          refine ⟨_, _, _, _, _, _, _, _, _, _, _, rfl, q1, q2, ?_⟩
          rw [show (headN jx (parN abx) (Tr.el a fd2 c2)).attrs = fd2 from rfl]
          cases ha : aGet fd2 "id" with
          | none =>
            walk_at "go"
            exact nope (by rw [ha]; nofun) _
          | some z =>
            walk_at "go"
            refine ift (fun hz => ?_) (fun hz => ?_)
            · walk_at "go"
              have e : byId T0 name = some (jx, Tr.el a fd2 c2, abx) := by
                unfold byId
                rw [← List.take_append_drop i (pre 0 [] T0), List.find?_append, hi, Option.none_or]
                obtain ⟨hl, hx'⟩ := List.getElem?_eq_some_iff.mp hx
                rw [List.drop_eq_getElem_cons hl, List.find?_cons, hx', show idIs name (Tr.el a fd2 c2) = true from decide_eq_true (by rw [ha, hz])]
              have := h S' le1
              rw [e] at this
              exact this
            · walk_at "go"
              exact nope (by rw [ha]; exact fun k => hz (by injection k)) _
    · obtain ⟨rfl, hi, u2, rfl⟩ := hI
      rw [List.take_length] at hi
      have := h S' le1
      rw [show byId T0 name = none from hi] at this
      walk_at "go"
      exact this
theorem ok_node_of (T : Tx K mg) {f : Addr} {fd : FuncData} (F : FunD K "node_of" "Document.node_of" (defArgs s_Document_node_of) (defBody s_Document_node_of) (defScope s_Document_node_of) [] [] f fd) : FnOk P w K mg base (L2.CX P w) 1 f fd ["self", "number"] (spD K (cNodeOf K)) := by
  refine dfn 2 F sc_Document_node_of (fun ds S q e h => ?_) rfl (fun cdv A0 outer s H E e hr => ⟨_, (dss_cons (ds_if (dt_dnotin (hu_of hr) (dv (pv 1)) (de_fld rfl (fd_Document_nodes T) (dv (pv 0)))) (dss_one (dr_raise (C := He.ga K "TreeError") PySem.F.excBase_ValueError T.x_TreeError.1 T.g_TreeError T.x_TreeError.2.1 (raises_own T.x_TreeError.2.2.1 T.x_TreeError.2.2.2) rfl)) dss_nil)
  (dss_one (ds_ret (de_dget (hu_of hr) (de_fld rfl (fd_Document_nodes T) (dv (pv 0))) (dv (pv 1)) (fun _ _ => rfl))))), fun ds S q h => ?_⟩)
  · obtain ⟨_, _, _, _, rfl, _⟩ := h
    rfl
  · obtain ⟨dc, A, T0, j, rfl, hd, hj, h⟩ := h
    obtain ⟨dn, v, hdc, hdn⟩ := hd.hdc
    have hg : kGet (numD A) (Sum.inl (j : Int)) = some (.ref (ad A j)) := numD_get (by rw [hd.len]; exact hj)
    walk_at "go"
    rw [hg, show (!(some (Dt.ref (ad A j))).isSome) = false from rfl]
    walk_at "go"
    exact ⟨_, hg, h⟩
end
end K19

open PySem PySem.Spec PyProof.Rows L2 Pr Dn LamX

namespace K19
open Mk
abbrev pSh (K : PySem.W.Frag) : Addr := (He.cT K ("Node", some "shown")).2
def cShown (K : PySem.W.Frag) (n : Nat) : DSp := fun ds S q _ => ∃ dc A T j u ab, ds = [.ref (ad A j)] ∧ Doc K S dc A T ∧ (j, u, ab) ∈ pre 0 [] T ∧ depth u < n ∧ S (pSh K) = some .gtb ∧ ∀ S', Le S S' → q (shD u) S'
section
variable {P : Program} {w : World} {K : PySem.W.Frag} {mg : Str → Option Value} {base : Heap}
theorem no_shown {f : Addr} {fd : FuncData} (F : FunD K "shown" "Node.shown" (defArgs s_Node_shown) (defBody s_Node_shown) (defScope s_Node_shown) [] [] f fd) : FnOk P w K mg base (L2.CX P w) 1 f fd ["self"] (spD K (cShown K 0)) := fn_no F sc_Node_shown fun ds S q e h => by
  obtain ⟨_, _, _, _, _, _, _, _, _, h, _⟩ := h
  cases h
theorem ok_shown (n : Nat) (T : Tx K mg) (m_Node_is_text : MetX P w K mg base 1 (He.ga K "Node") "is_text" (spD K (cIsText K)) []) (m_Node_shown : MetX P w K mg base (4 * n + 1) (He.ga K "Node") "shown" (spD K (cShown K n)) []) {f : Addr} {fd : FuncData} (F : FunD K "shown" "Node.shown" (defArgs s_Node_shown) (defBody s_Node_shown) (defScope s_Node_shown) [] [] f fd) (hTB : ∀ c, fd.code = .ref c → TabB base mg c (pSh K)) : FnOk P w K mg base (L2.CX P w) (4 * n + 5) f fd ["self"] (spD K (cShown K (n + 1))) := by
  refine dfnC 3 F sc_Node_shown hTB (fun ds S q e h => ?_) rfl (fun c0 A0 outer s H E e TB hr => ⟨_, (dss_cons (ds_if (de_tru rfl (de_meth0 (nm := nm_Node) rfl m_Node_is_text (by decide +kernel) dfl_nil hr (by omega) paX (dv (pv 0)))) (dss_one (ds_ret (de_fld rfl (fd_Node_text T) (dv (pv 0))))) dss_nil)
  (dss_cons (ds_set (i := 1) sc_Node_shown.nd rfl (Or.inl rfl) (de_ptupOf rfl (by rfl) T.b_tuple (de_sortItems rfl (hI_of hr) (de_fld rfl (fd_Node_attributes T) (dv (pv 0))) (by rfl) T.b_sorted (by decide +kernel))))
  (dss_one (ds_ret (de_tup (da_cons (de_fld rfl (fd_Node_tag T) (dv (pv 0))) (da_cons (dv (pv 1)) (da_cons (de_tupG (k := 4 * n + 1) (ig := none) (own := [("child", 2)]) rfl (hr.mono (by omega)) (by rfl) T.b_tuple TB rfl sc_Node_shown.nd (gnB_of (N := sl_Node_shown) (sc := defScope s_Node_shown) (by decide +kernel)) (fun _ z => by cases z) (di_lst rfl (de_fld rfl (fd_Node_children T) (dv (pv 0)))) (fun _ => rfl) ⟨(fun s H A' cl L code fp hr => (gw_name (i := 2) sc_Node_shown.nd rfl (Or.inl rfl) (by decide))), (fun s H A' cl L code fp hr => ts_nil), (fun s H A' cl L code fp hr => (de_meth0 (nm := nm_Node) rfl m_Node_shown (by decide +kernel) dfl_nil hr (by omega) passL (dv (pv 2))))⟩) da_nil)))))))), fun ds S q h => ?_⟩)
  · obtain ⟨_, _, _, _, _, _, rfl, _⟩ := h
    rfl
  · obtain ⟨dc, A, T0, j, u, ab, rfl, hd, hj, hn, tb, h⟩ := h
    have hn0 := hd.at hj
    obtain ⟨t, c, g1, g2, g3⟩ := hn0
    walk_at "go"
    refine hd.isT hj (fun he => ?_) (fun he => ?_)
    · walk_at "go"
      cases u with
      | el a b c => cases he
      | tx z => exact h S Le.refl
    · cases u with
      | tx z => cases he
      | el tag fd2 c2 =>
        walk_at "go"
        refine ⟨fd2, rfl, ?_⟩
        have hlen : (nums (j + 1) c2).length ≤ 900 := by
          have h1 := pre_size hj
          have h2 := hd.sz
          have h3 : size (Tr.el tag fd2 c2) = 1 + sizeL c2 := rfl
          have h4 := nums_len c2 (j + 1)
          omega
        have ek : (headN j (parN ab) (Tr.el tag fd2 c2)).kids = nums (j + 1) c2 := rfl
        walk_at "go"
        rw [ek] at g3 ⊢
        have er : refsO A (nums (j + 1) c2) = (kidsAt (j + 1) c2).map fun x => Dt.ref (ad A x.1) := by
          rw [← kidsAt_fst]
          show (((kidsAt (j + 1) c2).map (·.1)).map _) = _
          rw [List.map_map]
          rfl
        intro c1 P'
        refine tup_go (by rw [List.length_map]; exact size6 (by omega)) ?_
        rw [er] at g3 ⊢
        refine lc_at (fun x : Nat × Tr => Dt.ref (ad A x.1)) (kidsAt (j + 1) c2) (fun i acc S2 => Le S S2 ∧ acc = (((kidsAt (j + 1) c2).take i).map fun x => shD x.2)) (fun i acc S2 hI => hI.1 _ _ g3) (fun i x acc S2 hx hI kY kN hY hN => ?_) (fun acc S2 hI => ?_) ⟨Le.refl, rfl⟩
        · obtain ⟨le2, rfl⟩ := hI
          have hk : (x.1, x.2, ab ++ [(j, Tr.el tag fd2 c2)]) ∈ pre 0 [] T0 := pre_kids hj (List.mem_of_getElem? hx)
          have hd2 := hd.le le2
          obtain ⟨t3, c3, q1, _⟩ := hd2.at hk
          have tb2 := le2 _ _ tb
          walk_at "go"
          have dk : depth x.2 ≤ depthL c2 := by
            refine depth_kid ?_
            rw [← kidsAt_snd c2 (j + 1)]
            exact List.mem_map.mpr ⟨x, List.mem_of_getElem? hx, rfl⟩
          have dn : 1 + depthL c2 < n + 1 := hn
          refine ⟨dc, A, T0, x.1, x.2, _, rfl, hd2, hk, by omega, tb2, fun S3 le3 => ?_⟩
          refine hY _ _ ⟨le2.trans le3, ?_⟩
          rw [List.take_add_one, hx, List.map_append]
          rfl
        · obtain ⟨le2, rfl⟩ := hI
          rw [List.take_of_length_le (by exact Nat.le_refl _)]
          walk_at "go"
          have hq := h S2 le2
          rw [show shD (Tr.el tag fd2 c2) = .tup [.str tag, .ptp ((srtSS fd2).map ssD), .tup (shDL c2)] from rfl, shDL_map] at hq
          have ec : (kidsAt (j + 1) c2).map (fun x => shD x.2) = c2.map shD := by
            conv => rhs; rw [← kidsAt_snd c2 (j + 1), List.map_map]
            rfl
          rw [ec]
          exact hq
end
end K19

/-! outline: the pure side -/
namespace K19
open PySem PySem.Spec PyProof.Rows L2 Pr Dn Mk
abbrev Fd := List (Str × Str)
def rolesS : List (Str × Str) := [("a", "link"), ("button", "button"), ("img", "image"), ("li", "item"), ("ul", "list"), ("ol", "list"), ("form", "form"), ("main", "main"), ("section", "part"), ("h1", "heading"), ("h2", "heading"), ("p", "text")]
def inR (k : Str) : Option Str := if k = "checkbox" then some "mark" else if k = "submit" then some "button" else if k = "hidden" then none else some "field"
def kindF (fd : Fd) : Str := match aGet fd "type" with
  | none => "text"
  | some z => if z = "" then "text" else z
def roleF (tag : Str) (fd : Fd) : Option Str := match aGet fd "role" with
  | some r => if r ≠ "none" then some r else none
  | none => if tag = "input" then inR (kindF fd) else if tag = "a" ∧ aGet fd "href" = none then none else aGet rolesS tag
def inS : List (Str × Option Str) := [("checkbox", some "mark"), ("submit", some "button"), ("hidden", none)]
theorem inD (k : Str) : (kGet (kMerge [] (encD oS inS)) (Sum.inr k)).getD (.str "field") = oS (inR k) := by
  rw [encD_merge (by decide +kernel), encD_get]
  unfold inR
  by_cases h1 : k = "checkbox"
  · subst h1; rfl
  · rw [if_neg h1]
    by_cases h2 : k = "submit"
    · subst h2; rfl
    · rw [if_neg h2]
      by_cases h3 : k = "hidden"
      · subst h3; rfl
      · rw [if_neg h3]
        have e : aGet inS k = none := by
          rw [aGet_none]
          intro v hm
          simp only [inS, List.mem_cons, List.not_mem_nil, or_false, Prod.mk.injEq] at hm
          rcases hm with ⟨e, _⟩ | ⟨e, _⟩ | ⟨e, _⟩
          · exact h1 e
          · exact h2 e
          · exact h3 e
        rw [e]
        rfl
theorem aGet_map {α β : Type} (f : α → β) (k : Str) : ∀ L : List (Str × α), aGet (L.map fun p => (p.1, f p.2)) k = (aGet L k).map f
  | [] => rfl
  | p :: L => by
    unfold aGet
    rw [List.map_cons, List.find?_cons, List.find?_cons]
    show Option.map _ (match decide (p.1 = k) with | true => _ | false => _) = _
    cases decide (p.1 = k) with
    | true => rfl
    | false => exact aGet_map f k L
theorem rolesD_get (z : Str) : oDv (aGet rolesD z) = oS (aGet rolesS z) := by
  rw [show rolesD = rolesS.map (fun p => (p.1, He.Dv.str p.2)) from rfl, aGet_map]
  cases aGet rolesS z <;> rfl
def hidB : Tr → Bool
  | .tx _ => false
  | .el _ fd _ => (aGet fd "hidden").isSome
def loB : Tr → Bool
  | .tx _ => false
  | .el tag fd _ => decide (tag ∈ (["script", "style"] : List Str)) || (aGet fd "hidden").isSome
def leftOut (ab : Ab) (u : Tr) : Bool := ab.any (fun x => loB x.2) || loB u
def labB (n : Str) : Tr → Bool
  | .tx _ => false
  | .el tag fd _ => decide (tag = "label") && decide (aGet fd "for" = some n)
def labelN (T : Tr) (n : Str) : Str := match (pre 0 [] T).find? fun x => labB n x.2.1 with
  | none => ""
  | some x => content x.2.1
def labelF (T : Tr) (fd : Fd) : Str := match aGet fd "id" with
  | none => ""
  | some n => labelN T n
def told1 (T : Tr) (fd : Fd) : Option Str := match aGet fd "label" with
  | some z => some z
  | none => match aGet fd "labelledby" with
    | none => none
    | some l => (byId T l).map fun x => content x.2.1
def told2 (fd : Fd) (o : Option Str) : Option Str := match o with
  | some z => some z
  | none => match aGet fd "alt" with
    | some z => some z
    | none => aGet fd "title"
def noOwn : Option Str → Bool
  | none => false
  | some r => decide (r = "field") || decide (r = "mark") || decide (r = "image")
def told3 (tag : Str) (fd : Fd) (u : Tr) (o : Option Str) : Option Str := match o with
  | some z => some z
  | none => if noOwn (roleF tag fd) = true then none else some (content u)
def told4 (T : Tr) (fd : Fd) (o : Option Str) : Str := match o with
  | none => labelF T fd
  | some z => if Txt.words z = [] then labelF T fd else z
def nameF (T : Tr) (tag : Str) (fd : Fd) (u : Tr) : Str := Txt.join " " (Txt.words (told4 T fd (told3 tag fd u (told2 fd (told1 T fd)))))
def ordS : List Str := ["1", "2", "-1", "0", "x", "00002"]
def orderF (fd : Fd) : Option Int := match aGet fd "order" with
  | none => none
  | some z => if z = "1" then some 1 else if z = "2" then some 2 else if z = "-1" then some (-1) else if z = "0" then some 0 else none
structure AtOk (fd : Fd) : Prop where
  v : ∀ p ∈ fd, SOk p.1 ∧ SOk p.2 ∧ p.1.length ≤ 40 ∧ p.2.length ≤ 40
  nd : (fd.map (·.1)).Nodup
  o : ∀ z, aGet fd "order" = some z → z ∈ ordS
  l : fd.length ≤ 20
def badTags : List Str := ["script", "style", "ol", "form"]
structure TrOk (T : Tr) : Prop where
  tx : TxOk T
  at_ : ∀ j tag fd c ab, (j, Tr.el tag fd c, ab) ∈ pre 0 [] T → AtOk fd ∧ tag ∉ badTags
end K19
namespace K19
open PySem PySem.Spec PyProof.Rows L2 Pr Dn Mk
/-! the rows that are told -/
def rB : Tr → Bool
  | .tx _ => false
  | .el tag fd _ => (roleF tag fd).isSome
def level (ab : Ab) : Nat := (ab.filter fun x => rB x.2).length
def oRow (T : Tr) (x : En) : Option (Nat × Str × Str) := match x.2.1 with
  | .tx _ => none
  | .el tag fd c => if leftOut x.2.2 (.el tag fd c) = true then none else (roleF tag fd).map fun r => (level x.2.2, r, nameF T tag fd (.el tag fd c))
@[reducible] def oRowD (y : Nat × Str × Str) : Dt := .tup [.int (y.1 : Nat), .str y.2.1, .str y.2.2]
def outF (T : Tr) : List (Nat × Str × Str) := (pre 0 [] T).filterMap (oRow T)
def focR : Option Str → Bool
  | none => false
  | some r => decide (r ∈ (["link", "button", "field", "mark"] : List Str))
def focB (tag : Str) (fd : Fd) : Bool := match orderF fd with
  | none => focR (roleF tag fd)
  | some i => decide (0 ≤ i)
def focO (fd : Fd) : Int := match orderF fd with
  | none => 1000000
  | some i => if i = 0 then 1000000 else i
def fRow (x : En) : Option (Int × Nat) := match x.2.1 with
  | .tx _ => none
  | .el tag fd c => if leftOut x.2.2 (.el tag fd c) = true then none else if (aGet fd "off").isSome = true then none else if focB tag fd = true then some (focO fd, x.1) else none
def fRows (L : List En) : List (Int × Nat × Nat) := (L.filterMap fRow).zipIdx.map fun y => (y.1.1, y.2, y.1.2)
@[reducible] def fRowD (y : Int × Nat × Nat) : Dt := .tup [.int y.1, .int (y.2.1 : Nat), .int (y.2.2 : Nat)]
def lvlF (tag : Str) : Int := if tag = "h2" then 2 else 1
def hRow (T : Tr) (x : En) : Option (Int × Str) := match x.2.1 with
  | .tx _ => none
  | .el tag fd c => if leftOut x.2.2 (.el tag fd c) = true then none else if roleF tag fd = some ("heading" : Str) then some (lvlF tag, nameF T tag fd (.el tag fd c)) else none
@[reducible] def hRowD (y : Int × Str) : Dt := .tup [.int y.1, .str y.2]
/-- how often a level is left out, and the last level -/
def gapF : List (Int × Str) → Int × Int := fun l => l.foldl (fun s y => (s.1 + (if s.2 + 1 < y.1 then 1 else 0), y.1)) (0, 0)
theorem gapF_snoc (l : List (Int × Str)) (y : Int × Str) : gapF (l ++ [y]) = ((gapF l).1 + (if (gapF l).2 + 1 < y.1 then 1 else 0), y.1) := by
  unfold gapF
  rw [List.foldl_append]
  rfl
theorem fm_take {α β : Type} {L : List α} {i : Nat} {x : α} (f : α → Option β) (hx : L[i]? = some x) : (L.take (i + 1)).filterMap f = (L.take i).filterMap f ++ (f x).toList := by
  rw [List.take_add_one, hx, List.filterMap_append]
  show _ ++ List.filterMap f [x] = _
  cases h : f x <;> simp [h]
end K19

open PySem PySem.Spec PyProof.Rows L2 Pr Dn LamX

namespace K19
open Mk
/-- an element of the document -/
structure ElAt (K : PySem.W.Frag) (S : Store) (dc : Addr) (A : List Tri) (T : Tr) (j : Nat) (tag : Str) (fd : Fd) (c : List Tr) (ab : Ab) : Prop where
  d : Doc K S dc A T
  h : (j, Tr.el tag fd c, ab) ∈ pre 0 [] T
  ok : TrOk T
theorem ElAt.le {K : PySem.W.Frag} {S S' : Store} {dc : Addr} {A : List Tri} {T : Tr} {j : Nat} {tag : Str} {fd : Fd} {c : List Tr} {ab : Ab} (h : ElAt K S dc A T j tag fd c ab) (le : Le S S') : ElAt K S' dc A T j tag fd c ab := ⟨h.d.le le, h.h, h.ok⟩
def cRole (K : PySem.W.Frag) : DSp := fun ds S q _ => ∃ dc A T j tag fd c ab, ds = [.ref (ad A j)] ∧ ElAt K S dc A T j tag fd c ab ∧ q (oS (roleF tag fd)) S
def cLeft (K : PySem.W.Frag) : DSp := fun ds S q _ => ∃ dc A T j tag fd c ab, ds = [.ref (ad A j)] ∧ ElAt K S dc A T j tag fd c ab ∧ ∀ S', Le S S' → q (.bl (leftOut ab (.el tag fd c))) S'
def cLabel (K : PySem.W.Frag) : DSp := fun ds S q _ => ∃ dc A T j tag fd c ab, ds = [.ref (ad A j), .ref dc] ∧ ElAt K S dc A T j tag fd c ab ∧ ∀ S', Le S S' → q (.str (labelF T fd)) S'
def cNam (K : PySem.W.Frag) : DSp := fun ds S q _ => ∃ dc A T j tag fd c ab, ds = [.ref (ad A j), .ref dc] ∧ ElAt K S dc A T j tag fd c ab ∧ ∀ S', Le S S' → q (.str (nameF T tag fd (.el tag fd c))) S'
@[reducible] def oInt (o : Option Int) : Dt := match o with
  | none => .non
  | some i => .int i
def cOrder (K : PySem.W.Frag) : DSp := fun ds S q _ => ∃ dc A T j tag fd c ab, ds = [.ref (ad A j)] ∧ ElAt K S dc A T j tag fd c ab ∧ S (He.cT K ("order_told", none)).2 = some .gtb ∧ q (oInt (orderF fd)) S
section
variable {P : Program} {w : World} {K : PySem.W.Frag} {mg : Str → Option Value} {base : Heap}
theorem ElAt.attr {S : Store} {dc : Addr} {A : List Tri} {T : Tr} {j : Nat} {tag : Str} {fd : Fd} {c : List Tr} {ab : Ab} (h : ElAt K S dc A T j tag fd c ab) {nm : Str} {q : DK} {e : DX} (k : q (oS (aGet fd nm)) S) : cAttr K [.ref (ad A j), .str nm] S q e := by
  obtain ⟨t, c2, v, ck, g1, g2, _⟩ := h.d.el h.h
  exact ⟨_, _, _, _, _, _, _, _, _, _, _, rfl, g1, g2, k⟩
theorem ok_role (T : Tx K mg) (kd_ROLES : KdX K w (He.ga K "ROLES") rolesD) (m_Node_attribute : MetX P w K mg base 1 (He.ga K "Node") "attribute" (spD K (cAttr K)) []) {f : Addr} {fd : FuncData} (F : FunD K "role_of" "role_of" (defArgs s_role_of) (defBody s_role_of) (defScope s_role_of) [] [] f fd) : FnOk P w K mg base (L2.CX P w) 2 f fd ["node"] (spD K (cRole K)) := by
  refine dfn 3 F sc_role_of (fun ds S q e h => ?_) rfl (fun cdv A0 outer s H E e hr => ⟨_, (dss_cons (ds_set (i := 1) sc_role_of.nd rfl (Or.inl rfl) (de_meth (nm := nm_Node) rfl m_Node_attribute (by decide +kernel) dfl_nil hr (by decide) paX (dv (pv 0)) (da_cons de_str da_nil)))
  (dss_cons (ds_if (dt_cmp od_isNot (dv (pv 1)) de_non) (dss_one (ds_ret (de_if (dt_cmp (od_ne rfl (hU_of hr)) (dv (pv 1)) de_str) (dv (pv 1)) de_non))) dss_nil)
  (dss_cons (ds_if (dt_cmp (od_eq rfl (hU_of hr)) (de_fld rfl (fd_Node_tag T) (dv (pv 0))) de_str) (dss_cons (ds_set (i := 2) sc_role_of.nd rfl (Or.inl rfl) (de_or rfl (de_meth (nm := nm_Node) rfl m_Node_attribute (by decide +kernel) dfl_nil hr (by decide) paX (dv (pv 0)) (da_cons de_str da_nil)) (pe_one de_str)))
  (dss_one (ds_ret (de_dget2 (hu_of hr) (de_disp (dps_cons de_str de_str (dps_cons de_str de_str (dps_cons de_str de_non dps_nil))) (by rfl) (by rfl) (fun z => by cases z) (by decide)) (dv (pv 2)) de_str ⟨by rfl, by rfl, by rfl, by rfl⟩)))) dss_nil)
  (dss_cons (ds_if (PW.pt (dt_and (dt_cmp (od_eq rfl (hU_of hr)) (de_fld rfl (fd_Node_tag T) (dv (pv 0))) de_str) (pw_and1 (dt_cmp od_is (de_meth (nm := nm_Node) rfl m_Node_attribute (by decide +kernel) dfl_nil hr (by decide) paX (dv (pv 0)) (da_cons de_str da_nil)) de_non)))) (dss_one (ds_ret de_non)) dss_nil)
  (dss_one (ds_ret (de_kget1 rfl kd_ROLES (de_c (d := .ref _) (pe_glob (v := .ref _) rfl T.g_ROLES rfl) (fun _ => rfl)) (de_fld rfl (fd_Node_tag T) (dv (pv 0))) ⟨by rfl, by rfl, by rfl, by rfl⟩))))))), fun ds S q h => ?_⟩)
  · obtain ⟨_, _, _, _, _, _, _, _, rfl, _⟩ := h
    rfl
  · obtain ⟨dc, A, T0, j, tag, fd, c, ab, rfl, el, h⟩ := h
    obtain ⟨t, c2, v, ck, g1, g2, _⟩ := el.d.el el.h
    walk_at "go"
    refine el.attr ?_
    cases e1 : aGet fd "role" with
    | some r =>
      rw [show roleF tag fd = if r ≠ "none" then some r else none from by unfold roleF; rw [e1]] at h
      walk_at "go"
      refine mdecN (fun h1 => ?_) (fun h1 => ?_)
      · rw [if_pos h1] at h
        walk_at "go"
        exact h
      · rw [if_neg (fun k => k h1)] at h
        walk_at "go"
        exact h
    | none =>
      walk_at "go"
      refine mdec (fun h1 => ?_) (fun h1 => ?_)
      · rw [show roleF tag fd = inR (kindF fd) from by unfold roleF; rw [e1]; exact if_pos h1] at h
        walk_at "go"
        refine el.attr ?_
        have fin : ∀ (k : Str) (u : DS), kindF fd = k → u = [some (.ref (ad A j)), some (oS none), some (.str k)] → dDget2 (dDisp [(dC (.str "checkbox"), dC (.str "mark")), (dC (.str "submit"), dC (.str "button")), (dC (.str "hidden"), dC .non)]) (dVar 2) (dC (.str "field")) u S q := fun k u hk hu => by
          subst hk
          subst hu
          generalize kindF fd = k at h ⊢
          walk_at "go"
          rw [show [((Sum.inr ("checkbox" : Str) : Key), Dt.str "mark"), (Sum.inr ("submit" : Str), .str "button"), (Sum.inr ("hidden" : Str), .non)] = encD oS inS from rfl, inD]
          exact h
        cases e2 : aGet fd "type" with
        | none =>
          walk_at "go"
          exact fin "text" _ (by unfold kindF; rw [e2]) rfl
        | some z =>
          walk_at "go"
          refine mdecN (fun h3 => ?_) (fun h3 => ?_)
          · walk_at "go"
            exact fin z _ (by unfold kindF; rw [e2]; exact if_neg h3) rfl
          · walk_at "go"
            exact fin "text" _ (by unfold kindF; rw [e2]; exact if_pos h3) rfl
      · walk_at "go"
        refine mdec (fun h2 => ?_) (fun h2 => ?_)
        · walk_at "go"
          refine el.attr ?_
          cases e2 : aGet fd "href" with
          | none =>
            rw [show roleF tag fd = none from by unfold roleF; rw [e1]; exact (if_neg h1).trans (if_pos ⟨h2, e2⟩)] at h
            walk_at "go"
            exact h
          | some z =>
            rw [show roleF tag fd = aGet rolesS tag from by unfold roleF; rw [e1]; exact (if_neg h1).trans (if_neg (fun k => by rw [e2] at k; cases k.2))] at h
            walk_at "go"
            exact ⟨tag, rfl, by rw [rolesD_get]; exact h⟩
        · rw [show roleF tag fd = aGet rolesS tag from by unfold roleF; rw [e1]; exact (if_neg h1).trans (if_neg (fun k => h2 k.1))] at h
          walk_at "go"
          exact ⟨tag, rfl, by rw [rolesD_get]; exact h⟩
end
end K19

open PySem PySem.Spec PyProof.Rows L2 Pr Dn LamX

namespace K19
open Mk
section
variable {P : Program} {w : World} {K : PySem.W.Frag} {mg : Str → Option Value} {base : Heap}
/-- the way down to an element -/
theorem ElAt.path {S : Store} {dc : Addr} {A : List Tri} {T : Tr} {j : Nat} {tag : Str} {fd : Fd} {c : List Tr} {ab : Ab} (h : ElAt K S dc A T j tag fd c ab) {q : DK} {e : DX} (k : ∀ S', Le S S' → q (.lst ((ab ++ [(j, Tr.el tag fd c)]).map fun x => .ref (ad A x.1))) S') : cPath K [.ref (ad A j)] S q e := by
  refine ⟨_, _, rfl, h.d.up _ ab j _ rfl h.h, ?_, fun S' le => ?_⟩
  · have h1 := pre_ab h.h
    have h2 := pre_lt h.h
    have h3 := h.d.sz
    rw [List.length_map, List.length_cons, List.length_reverse, List.length_map]
    show ab.length + 1 ≤ 1000
    have h1 : ab.length + 0 ≤ 0 + j := h1
    omega
  · have := k S' le
    rw [List.map_append] at this
    rw [← List.map_reverse, List.reverse_cons, List.reverse_reverse, List.map_append, List.map_map, List.map_append, List.map_map]
    exact this
/-- those on the way are elements -/
theorem ElAt.anc {S : Store} {dc : Addr} {A : List Tri} {T : Tr} {j : Nat} {tag : Str} {fd : Fd} {c : List Tr} {ab : Ab} (h : ElAt K S dc A T j tag fd c ab) {i : Nat} {x : Nat × Tr} (hx : (ab ++ [(j, Tr.el tag fd c)])[i]? = some x) : ∃ tag' fd' c' ab', x.2 = Tr.el tag' fd' c' ∧ ElAt K S dc A T x.1 tag' fd' c' ab' := by
  rcases Nat.lt_or_ge i ab.length with hi | hi
  · rw [List.getElem?_append_left hi] at hx
    obtain ⟨b, e, hb⟩ := pre_anc h.h
    have e : ab = b := e
    subst e
    obtain ⟨_, hx'⟩ := List.getElem?_eq_some_iff.mp hx
    obtain ⟨h1, t', f', c', h2⟩ := hb (ab.take i) x (ab.drop (i + 1)) (by rw [← hx', ← List.drop_eq_getElem_cons hi, List.take_append_drop])
    rw [h2] at h1
    exact ⟨t', f', c', _, h2, h.d, h1, h.ok⟩
  · rw [List.getElem?_append_right hi] at hx
    obtain ⟨hl, hx'⟩ := List.getElem?_eq_some_iff.mp hx
    rw [List.length_singleton] at hl
    have : i - ab.length = 0 := by omega
    rw [this] at hx
    injection hx with hx
    subst hx
    exact ⟨tag, fd, c, ab, rfl, h⟩
theorem ok_left (T : Tx K mg) (m_Node_path : MetX P w K mg base 1 (He.ga K "Node") "path" (spD K (cPath K)) []) (m_Node_attribute : MetX P w K mg base 1 (He.ga K "Node") "attribute" (spD K (cAttr K)) []) {f : Addr} {fd : FuncData} (F : FunD K "is_left_out" "is_left_out" (defArgs s_is_left_out) (defBody s_is_left_out) (defScope s_is_left_out) [] [] f fd) : FnOk P w K mg base (L2.CX P w) 2 f fd ["node"] (spD K (cLeft K)) := by
  refine dfn 2 F sc_is_left_out (fun ds S q e h => ?_) rfl (fun cdv A0 outer s H E e hr => ⟨_, (dss_cons (ds_for poX rfl (di_lst rfl (de_meth0 (nm := nm_Node) rfl m_Node_path (by decide +kernel) dfl_nil hr (by decide) paX (dv (pv 0)))) (dg_name (i := 1) sc_is_left_out.nd rfl (Or.inl rfl)) (dss_one (ds_if (PW.pt (dt_or (dt_cmp (od_in rfl (hW_of hr)) (de_fld rfl (fd_Node_tag T) (dv (pv 1))) (de_tup (da_cons de_str (da_cons de_str da_nil)))) (pw_or1 (dt_cmp od_isNot (de_meth (nm := nm_Node) rfl m_Node_attribute (by decide +kernel) dfl_nil hr (by decide) paX (dv (pv 1)) (da_cons de_str da_nil)) de_non)))) (dss_one (ds_ret de_bl)) dss_nil)))
  (dss_one (ds_ret de_bl))), fun ds S q h => ?_⟩)
  · obtain ⟨_, _, _, _, _, _, _, _, rfl, _⟩ := h
    rfl
  · obtain ⟨dc, A, T0, j, tag, fd, c, ab, rfl, el, h⟩ := h
    obtain ⟨t, c2, v, ck, g1, g2, _⟩ := el.d.el el.h
    walk_at "go"
    refine el.path fun S1 le1 => ?_
    have el1 := el.le le1
    walk_at "go"
    refine forGo_at (fun x : Nat × Tr => Dt.ref (ad A x.1)) (ab ++ [(j, Tr.el tag fd c)]) (fun i δ S2 => S2 = S1 ∧ ((ab ++ [(j, Tr.el tag fd c)]).take i).any (fun x => loB x.2) = false ∧ ∃ u1, δ = [some (.ref (ad A j)), u1]) (fun i δ S' hI => trivial) (fun i x δ S' hx hI nx2 kk => ?_) (fun δ S' hI => ?_) ⟨rfl, rfl, _, rfl⟩
    · obtain ⟨rfl, hi, u1, rfl⟩ := hI
      obtain ⟨tag', fd', c', ab', ex, el'⟩ := el1.anc hx
      obtain ⟨t', c2', v', ck', q1, q2, _⟩ := el'.d.el el'.h
      have yes : loB x.2 = true → leftOut ab (Tr.el tag fd c) = true := fun hl => by
        have : (ab ++ [(j, Tr.el tag fd c)]).any (fun x => loB x.2) = true := List.any_eq_true.mpr ⟨x, List.mem_of_getElem? hx, hl⟩
        rw [List.any_append] at this
        unfold leftOut
        rw [List.any_cons, List.any_nil, Bool.or_false] at this
        exact this
      have no : loB x.2 = false → ∀ u, nx2 [some (.ref (ad A j)), u] S' := fun hl u => by
        refine kk _ _ ⟨rfl, ?_, _, rfl⟩
        rw [List.take_add_one, hx, List.any_append, hi]
        show (false || (loB x.2 || false)) = false
        rw [hl]
        rfl
      have h := h S' le1
      rw [ex] at yes no
      walk_at "go"
      refine in_tup ["script", "style"] rfl ?_
      walk_at "go"
      refine mdec (fun hs => ?_) (fun hs => ?_)
      · rw [yes (by show (decide _ || _) = true; rw [decide_eq_true hs]; rfl)] at h
        walk_at "go"
        exact h
      · have el0 : loB (Tr.el tag' fd' c') = (aGet fd' "hidden").isSome := by
          show (decide _ || _) = _
          rw [decide_eq_false hs, Bool.false_or]
        walk_at "go"
        refine el'.attr ?_
        cases e1 : aGet fd' "hidden" with
        | some z =>
          rw [yes (by rw [el0, e1]; rfl)] at h
          walk_at "go"
          exact h
        | none =>
          walk_at "go"
          exact no (by rw [el0, e1]; rfl) _
    · obtain ⟨rfl, hi, u1, rfl⟩ := hI
      rw [List.take_length, List.any_append, List.any_cons, List.any_nil, Bool.or_false] at hi
      have := h S' le1
      rw [show leftOut ab (Tr.el tag fd c) = false from hi] at this
      walk_at "go"
      exact this
theorem find_cons {α : Type} {p : α → Bool} {L : List α} {i : Nat} {x : α} (hx : L[i]? = some x) (hi : (L.take i).find? p = none) : (p x = true → L.find? p = some x) ∧ (p x = false → (L.take (i + 1)).find? p = none) := by
  refine ⟨fun h => ?_, fun h => ?_⟩
  · obtain ⟨hl, hx'⟩ := List.getElem?_eq_some_iff.mp hx
    rw [← List.take_append_drop i L, List.find?_append, hi, Option.none_or, List.drop_eq_getElem_cons hl, List.find?_cons, hx', h]
  · rw [List.take_add_one, hx, List.find?_append, hi]
    show List.find? p [x] = none
    rw [List.find?_cons, h]
    rfl
theorem ok_label (T : Tx K mg) (m_Node_all_nodes : MetX P w K mg base 1 (He.ga K "Node") "all_nodes" (spD K (cAll K)) []) (m_Node_is_text : MetX P w K mg base 1 (He.ga K "Node") "is_text" (spD K (cIsText K)) []) (m_Node_attribute : MetX P w K mg base 1 (He.ga K "Node") "attribute" (spD K (cAttr K)) []) (m_Node_content : MetX P w K mg base 2 (He.ga K "Node") "content" (spD K (cCont K)) []) {f : Addr} {fd : FuncData} (F : FunD K "label_for" "label_for" (defArgs s_label_for) (defBody s_label_for) (defScope s_label_for) [] [] f fd) : FnOk P w K mg base (L2.CX P w) 3 f fd ["node", "document"] (spD K (cLabel K)) := by
  refine dfn 4 F sc_label_for (fun ds S q e h => ?_) rfl (fun cdv A0 outer s H E e hr => ⟨_, (dss_cons (ds_set (i := 2) sc_label_for.nd rfl (Or.inl rfl) (de_meth (nm := nm_Node) rfl m_Node_attribute (by decide +kernel) dfl_nil hr (by decide) paX (dv (pv 0)) (da_cons de_str da_nil)))
  (dss_cons (ds_if (dt_cmp od_isNot (dv (pv 2)) de_non) (dss_one (ds_for poX rfl (di_lst rfl (de_meth0 (nm := nm_Node) rfl m_Node_all_nodes (by decide +kernel) dfl_nil hr (by decide) paX (de_fld rfl (fd_Document_root T) (dv (pv 1))))) (dg_name (i := 3) sc_label_for.nd rfl (Or.inl rfl)) (dss_one (ds_if (PW.pt (dt_and (dt_not (de_tru rfl (de_meth0 (nm := nm_Node) rfl m_Node_is_text (by decide +kernel) dfl_nil hr (by decide) paX (dv (pv 3))))) (dt_and (dt_cmp (od_eq rfl (hU_of hr)) (de_fld rfl (fd_Node_tag T) (dv (pv 3))) de_str) (pw_and1 (dt_cmp (od_eq rfl (hU_of hr)) (de_meth (nm := nm_Node) rfl m_Node_attribute (by decide +kernel) dfl_nil hr (by decide) paX (dv (pv 3)) (da_cons de_str da_nil)) (dv (pv 2))))))) (dss_one (ds_ret (de_meth0 (nm := nm_Node) rfl m_Node_content (by decide +kernel) dfl_nil hr (by decide) paX (dv (pv 3))))) dss_nil)))) dss_nil)
  (dss_one (ds_ret de_str)))), fun ds S q h => ?_⟩)
  · obtain ⟨_, _, _, _, _, _, _, _, rfl, _⟩ := h
    rfl
  · obtain ⟨dc, A, T0, j, tag, fd, c, ab, rfl, el, h⟩ := h
    obtain ⟨t, c2, v, ck, g1, g2, _⟩ := el.d.el el.h
    obtain ⟨dn, vv, hdc, _⟩ := el.d.hdc
    have h0 := pre_head T0 0 []
    obtain ⟨t0, c0, g0, _⟩ := el.d.at h0
    walk_at "go"
    refine el.attr ?_
    cases e1 : aGet fd "id" with
    | none =>
      have h := h S Le.refl
      rw [show labelF T0 fd = "" from by unfold labelF; rw [e1]] at h
      walk_at "go"
      exact h
    | some n =>
      have el0 : labelF T0 fd = labelN T0 n := by unfold labelF; rw [e1]
      walk_at "go"
      refine ⟨dc, A, T0, 0, T0, [], rfl, el.d, h0, fun S1 p le1 np hp => ?_⟩
      have hd1 := el.d.le le1
      rw [refs_pre (ab := [])] at hp
      walk_at "go"
      refine forGo_at (fun x : En => Dt.ref (ad A x.1)) (pre 0 [] T0) (fun i δ S2 => S2 = S1 ∧ ((pre 0 [] T0).take i).find? (fun x => labB n x.2.1) = none ∧ ∃ u3, δ = [some (.ref (ad A j)), some (.ref dc), some (.str n), u3]) (fun i δ S' hI => ?_) (fun i x δ S' hx hI nx2 kk => ?_) (fun δ S' hI => ?_) ⟨rfl, rfl, _, rfl⟩
      · obtain ⟨rfl, _⟩ := hI
        exact hp
      · obtain ⟨rfl, hi, u3, rfl⟩ := hI
        have hm := List.mem_of_getElem? hx
        obtain ⟨f1, f2⟩ := find_cons hx hi
        have no : labB n x.2.1 = false → ∀ u, nx2 [some (.ref (ad A j)), some (.ref dc), some (.str n), u] S' := fun hl u => kk _ _ ⟨rfl, f2 hl, _, rfl⟩
        obtain ⟨jx, v, abx⟩ := x
        cases v with
        | tx z =>
          obtain ⟨t, c, q1, _⟩ := hd1.tx hm
          walk_at "go"
          refine hd1.isT hm (fun he => ?_) (fun he => ?_)
          · walk_at "go"
            exact no rfl _
          · cases he
        | el tx fx cx =>
          have elx : ElAt K S' dc A T0 jx tx fx cx abx := ⟨hd1, hm, el.ok⟩
          obtain ⟨t, c, vx, kx, q1, q2, _⟩ := hd1.el hm
          walk_at "go"
          refine hd1.isT hm (fun he => ?_) (fun he => ?_)
          · cases he
          · walk_at "go"
            refine mdec (fun h1 => ?_) (fun h1 => ?_)
            · walk_at "go"
              refine elx.attr ?_
              cases e2 : aGet fx "for" with
              | none =>
                walk_at "go"
                exact no (by show (decide _ && decide _) = false; rw [e2]; simp) _
              | some z =>
                walk_at "go"
                refine mdec (fun h2 => ?_) (fun h2 => ?_)
                · walk_at "go"
                  refine ⟨dc, A, T0, jx, _, abx, rfl, hd1, hm, el.ok.tx.sub hm, fun S2 le2 => ?_⟩
                  have h := h S2 (le1.trans le2)
                  have fx1 := f1 (by show (decide _ && decide _) = true; rw [e2, decide_eq_true h1, h2, decide_eq_true rfl]; rfl)
                  rw [el0, show labelN T0 n = content (Tr.el tx fx cx) from by unfold labelN; rw [fx1]] at h
                  exact h
                · walk_at "go"
                  exact no (by show (decide _ && decide _) = false; rw [e2, decide_eq_false (p := some z = some n) (fun k => h2 (by injection k))]; simp) _
            · walk_at "go"
              exact no (by show (decide _ && decide _) = false; rw [decide_eq_false h1]; rfl) _
      · obtain ⟨rfl, hi, u3, rfl⟩ := hI
        rw [List.take_length] at hi
        have h := h S' le1
        rw [el0, show labelN T0 n = "" from by unfold labelN; rw [hi]] at h
        walk_at "go"
        exact h
end
end K19

open PySem PySem.Spec PyProof.Rows L2 Pr Dn LamX

namespace K19
open Mk
def digS : Str := "0123456789"
section
variable {P : Program} {w : World} {K : PySem.W.Frag} {mg : Str → Option Value} {base : Heap}
set_option hygiene false in
local macro_rules | `(tactic| walk_at "od") => `(tactic| (
  rcases hh with ⟨⟨p1, p2, p3⟩, n, p4, p5⟩ | ⟨p | ⟨p1, p2, p3⟩, p5⟩
  · rw [p5] at h
    rw [show decide ((0 : Int) < (d.length : Nat)) = true from decide_eq_true (by omega)]
    walk_at "go"
    rw [show decide (((d.length : Nat) : Int) < 5) = true from decide_eq_true (by omega)]
    walk_at "go"
    intro c1 P1
    refine any_map (xs := lets d) (f := Dt.str) signs_lets (fun c => !hasS digS c) trivial (fun y hy C D hC => ?_) ?_
    · walk_at "go"
      exact hC
    · rw [p3]
      walk_at "go"
      rw [h1]
      walk_at "go"
      refine ⟨n, ⟨p4, by omega⟩, ?_⟩
      walk_at "go"
      exact h
  · rw [p5] at h
    rw [show decide ((0 : Int) < (d.length : Nat)) = true from decide_eq_true (by omega)]
    walk_at "go"
    rw [show decide (((d.length : Nat) : Int) < 5) = false from decide_eq_false (by omega)]
    walk_at "go"
    exact h
  · rw [p5] at h
    rw [show decide ((0 : Int) < (d.length : Nat)) = true from decide_eq_true (by omega)]
    walk_at "go"
    rw [show decide (((d.length : Nat) : Int) < 5) = true from decide_eq_true (by omega)]
    walk_at "go"
    intro c1 P1
    refine any_map (xs := lets d) (f := Dt.str) signs_lets (fun c => !hasS digS c) trivial (fun y hy C D hC => ?_) ?_
    · walk_at "go"
      exact hC
    · rw [p3]
      walk_at "go"
      exact h))
theorem ok_order (T : Tx K mg) (m_Node_attribute : MetX P w K mg base 1 (He.ga K "Node") "attribute" (spD K (cAttr K)) []) {f : Addr} {fd : FuncData} (F : FunD K "order_told" "order_told" (defArgs s_order_told) (defBody s_order_told) (defScope s_order_told) [] [] f fd) (hTB : ∀ c, fd.code = .ref c → TabB base mg c (He.cT K ("order_told", none)).2) : FnOk P w K mg base (L2.CX P w) 6 f fd ["node"] (spD K (cOrder K)) := by
  refine dfnC 4 F sc_order_told hTB (fun ds S q e h => ?_) rfl (fun c0 A0 outer s H E e TB hr => ⟨_, (dss_cons (ds_set (i := 1) sc_order_told.nd rfl (Or.inl rfl) (de_meth (nm := nm_Node) rfl m_Node_attribute (by decide +kernel) dfl_nil hr (by decide) paX (dv (pv 0)) (da_cons de_str da_nil)))
  (dss_cons (ds_if (dt_cmp od_is (dv (pv 1)) de_non) (dss_one (ds_ret de_non)) dss_nil)
  (dss_cons (ds_set (i := 2) sc_order_told.nd rfl (Or.inl rfl) (de_if (de_tru rfl (de_bm rfl is_tx PySem.F.plainAttrs_str PySem.F.slot_str_startswith PySem.F.type_str_startswith md_startswith1 (dv (pv 1)) (da_cons de_str da_nil))) (de_sl rfl (dv (pv 1)) (do_some de_int) do_none) (dv (pv 1))))
  (dss_cons (ds_if (PW.pt (dt_or (dt_not (dt_chain od_lt od_lt de_int (de_callB (cd_len rfl) (by rfl) T.b_len (by decide +kernel) (da_cons (dv (pv 2)) da_nil)) de_int)) (pw_or1 (de_tru rfl (de_anyG (k := 0) (ig := none) (own := [("sign", 3)]) rfl (Or.inl ⟨rfl, rfl⟩) (hr.mono (by decide)) (by rfl) T.b_any TB rfl sc_order_told.nd (gnB_of (N := sl_order_told) (sc := defScope s_order_told) (by decide +kernel)) (fun _ z => by cases z) (di_str (dv (pv 2))) (fun _ => rfl) ⟨(fun s H A' cl L code fp hr => (gw_name (i := 3) sc_order_told.nd rfl (Or.inl rfl) (by decide))), (fun s H A' cl L code fp hr => ts_nil), (fun s H A' cl L code fp hr => (de_cmp (od_notin rfl (hW_of hr)) (dv (pv 3)) de_str))⟩))))) (dss_one (ds_ret de_non)) dss_nil)
  (dss_one (ds_ret (de_if (de_tru rfl (de_bm rfl is_tx PySem.F.plainAttrs_str PySem.F.slot_str_startswith PySem.F.type_str_startswith md_startswith1 (dv (pv 1)) (da_cons de_str da_nil))) (de_op od_sub de_int (de_callTy cd_intS (by rfl) T.b_int (by decide +kernel) (da_cons (dv (pv 2)) da_nil))) (de_callTy cd_intS (by rfl) T.b_int (by decide +kernel) (da_cons (dv (pv 2)) da_nil))))))))), fun ds S q h => ?_⟩)
  · obtain ⟨_, _, _, _, _, _, _, _, rfl, _⟩ := h
    rfl
  · obtain ⟨dc, A, T0, j, tag, fd, c, ab, rfl, el, tb, h⟩ := h
    obtain ⟨t, c2, v, ck, g1, g2, _⟩ := el.d.el el.h
    have ok := (el.ok.at_ j tag fd c ab el.h).1
    walk_at "go"
    refine el.attr ?_
    cases e1 : aGet fd "order" with
    | none =>
      rw [show orderF fd = none from by unfold orderF; rw [e1]] at h
      walk_at "go"
      exact h
    | some z =>
      have key : ∃ (neg : Bool) (d : Str), Txt.startswith z "-" = neg ∧ (neg = true → cutS z (some 1) none = d) ∧ (neg = false → z = d) ∧ d.length ≤ 5 ∧ (((0 < d.length ∧ d.length < 5 ∧ (lets d).any (fun c => !hasS digS c) = false) ∧ ∃ n, PySem.intText? d = some n ∧ orderF fd = some (if neg = true then 0 - n else n)) ∨ ((¬ d.length < 5 ∨ (0 < d.length ∧ d.length < 5 ∧ (lets d).any (fun c => !hasS digS c) = true)) ∧ orderF fd = none)) := by
        have hz := ok.o z e1
        have ho : orderF fd = if z = "1" then some 1 else if z = "2" then some 2 else if z = "-1" then some (-1) else if z = "0" then some 0 else none := by unfold orderF; rw [e1]
        rw [ho]
        simp only [ordS, List.mem_cons, List.not_mem_nil, or_false] at hz
        rcases hz with rfl | rfl | rfl | rfl | rfl | rfl
        · exact ⟨false, "1", by decide +kernel, nofun, fun _ => rfl, by decide +kernel, .inl ⟨by decide +kernel, 1, by decide +kernel, by decide +kernel⟩⟩
        · exact ⟨false, "2", by decide +kernel, nofun, fun _ => rfl, by decide +kernel, .inl ⟨by decide +kernel, 2, by decide +kernel, by decide +kernel⟩⟩
        · exact ⟨true, "1", by decide +kernel, fun _ => by decide +kernel, nofun, by decide +kernel, .inl ⟨by decide +kernel, 1, by decide +kernel, by decide +kernel⟩⟩
        · exact ⟨false, "0", by decide +kernel, nofun, fun _ => rfl, by decide +kernel, .inl ⟨by decide +kernel, 0, by decide +kernel, by decide +kernel⟩⟩
        · exact ⟨false, "x", by decide +kernel, nofun, fun _ => rfl, by decide +kernel, .inr ⟨.inr (by decide +kernel), by decide +kernel⟩⟩
        · exact ⟨false, "00002", by decide +kernel, nofun, fun _ => rfl, by decide +kernel, .inr ⟨.inl (by decide +kernel), by decide +kernel⟩⟩
      obtain ⟨neg, d, h1, h2, h3, hl, hh⟩ := key
      walk_at "go"
      rw [h1]
      cases neg with
      | true =>
        have h2 := h2 rfl
        walk_at "go"
        rw [h2]
        walk_at "go"
        walk_at "od"
      | false =>
        have h3 := (h3 rfl).symm
        subst h3
        walk_at "go"
        walk_at "od"
end
end K19

open PySem PySem.Spec PyProof.Rows L2 Pr Dn LamX

namespace K19
open Mk
/-- a text that can be worked with -/
structure StOk (z : Str) : Prop where
  s : SOk z
  l : z.length ≤ 40000
theorem AtOk.st {fd : Fd} (h : AtOk fd) {n z : Str} (e : aGet fd n = some z) : StOk z := ⟨(h.v _ (aGet_mem e)).2.1, by have := (h.v _ (aGet_mem e)).2.2.2; show z.length ≤ 40000; have : (n, z).2.length ≤ 40 := this; have : z.length ≤ 40 := this; omega⟩
theorem content_ok {u : Tr} (h : TxOk u) (hs : size u ≤ 900) : StOk (content u) := by
  have tl := texts_len u
  have := sok_join (s := "") (k := 40) (ys := texts u) SOk.empty h (by show _ * (40 + 0) ≤ _; omega)
  refine ⟨this.1, Nat.le_trans this.2 ?_⟩
  show _ * (40 + 0) ≤ _
  omega
theorem ElAt.sz {K : PySem.W.Frag} {S : Store} {dc : Addr} {A : List Tri} {T : Tr} {j : Nat} {u : Tr} {ab : Ab} (d : Doc K S dc A T) (hj : (j, u, ab) ∈ pre 0 [] T) : size u ≤ 900 := by
  have := pre_size hj
  have := d.sz
  omega
section
variable {P : Program} {w : World} {K : PySem.W.Frag} {mg : Str → Option Value} {base : Heap}
theorem labelN_ok {S : Store} {dc : Addr} {A : List Tri} {T : Tr} (d : Doc K S dc A T) (ok : TrOk T) (n : Str) : StOk (labelN T n) := by
  unfold labelN
  cases e : (pre 0 [] T).find? fun x => labB n x.2.1 with
  | none => exact ⟨SOk.empty, Nat.zero_le _⟩
  | some x =>
    have hm := List.mem_of_find?_eq_some e
    exact content_ok (ok.tx.sub hm) (ElAt.sz d hm)
theorem labelF_ok {S : Store} {dc : Addr} {A : List Tri} {T : Tr} (d : Doc K S dc A T) (ok : TrOk T) (fd : Fd) : StOk (labelF T fd) := by
  unfold labelF
  cases aGet fd "id" with
  | none => exact ⟨SOk.empty, Nat.zero_le _⟩
  | some n => exact labelN_ok d ok n
abbrev ncx (P : Program) (w : World) (K : PySem.W.Frag) (mg : Str → Option Value) (base : Heap) (f : Addr) (cdv : Value) (A : Around) (outer : List Env) (s : Shared) (HE : Hp) (E : XK) : Cx := cxOf (L2.CX P w) P w K mg base sl_name_of "name_of" (defScope s_name_of) f cdv A outer s HE E
def bd_n2 : List Stmt := (defBody s_name_of).drop 2
def bd_n3 : List Stmt := (defBody s_name_of).drop 3
def bd_n4 : List Stmt := (defBody s_name_of).drop 4
end
section
variable {P : Program} {w : World} {K : PySem.W.Frag} {mg : Str → Option Value} {base : Heap} {f : Addr} {cdv : Value} {A0 : Around} {outer : List Env} {s0 : Shared} {HE : Hp} {E : XK} {e : DX}
theorem bl_n4 (T : Tx K mg) (c_label_for : CalX P w K mg base 3 "label_for" (spD K (cLabel K)) []) (hr : Room 3 (A0.deeper (envOfC "name_of" (defScope s_name_of) s0.heap.objs.size f cdv))) :
    ∃ t, PSs (ncx P w K mg base f cdv A0 outer s0 HE E) bd_n4 (tDS K E e t) ∧ ∀ (D : DEnds) (S : Store) (dc : Addr) (A : List Tri) (T0 : Tr) (j : Nat) (tag : Str) (fd : Fd) (c : List Tr) (ab : Ab) (o : Option Str) (u3 u4 : Option Dt), ElAt K S dc A T0 j tag fd c ab → (∀ z, o = some z → StOk z) → (∀ S', Le S S' → D.rt (.str (Txt.join " " (Txt.words (told4 T0 fd o)))) S') → t D [some (.ref (ad A j)), some (.ref dc), some (oS o), u3, u4] S := by
  refine ⟨_, (dss_cons (ds_if (PW.pt (dt_or (dt_cmp od_is (dv (pv 2)) de_non) (pw_or1 (dt_cmp (od_eqN (hW_of hr)) (de_bm0 rfl is_tx PySem.F.plainAttrs_str PySem.F.slot_str_split PySem.F.type_str_split md_split0 (dv (pv 2))) (de_lst da_nil))))) (dss_one (ds_set (i := 2) sc_name_of.nd rfl (Or.inl rfl) (de_call rfl c_label_for dfl_nil hr (by decide) rfl paX (da_cons (dv (pv 0)) (da_cons (dv (pv 1)) da_nil))))) dss_nil)
  (dss_one (ds_ret (de_bm rfl is_tx PySem.F.plainAttrs_str PySem.F.slot_str_join PySem.F.type_str_join (md_join rfl) de_str (da_cons (de_bm0 rfl is_tx PySem.F.plainAttrs_str PySem.F.slot_str_split PySem.F.type_str_split md_split0 (dv (pv 2))) da_nil))))), fun D S dc A T0 j tag fd c ab o u3 u4 el ho h => ?_⟩
  cases o with
  | none =>
    have h := h
    rw [show told4 T0 fd none = labelF T0 fd from rfl] at h
    walk_at "go"
    refine ⟨dc, A, T0, j, tag, fd, c, ab, rfl, el, fun S1 le1 => ?_⟩
    have st := labelF_ok el.d el.ok fd
    have s1 := st.s
    have s2 := st.l
    walk_at "go"
    refine join_words s1 (by omega) ?_
    walk_at "go"
    exact h S1 le1
  | some z =>
    obtain ⟨s1, s2⟩ := ho z rfl
    rw [show told4 T0 fd (some z) = if Txt.words z = [] then labelF T0 fd else z from rfl] at h
    walk_at "go"
    by_cases hw : Txt.words z = []
    · rw [if_pos hw] at h
      rw [hw, show (List.map Dt.str ([] : List Str)).isEmpty = true from rfl]
      walk_at "go"
      refine ⟨dc, A, T0, j, tag, fd, c, ab, rfl, el, fun S1 le1 => ?_⟩
      have st := labelF_ok el.d el.ok fd
      have s3 := st.s
      have s4 := st.l
      walk_at "go"
      refine join_words s3 (by omega) ?_
      walk_at "go"
      exact h S1 le1
    · rw [if_neg hw] at h
      rw [show (List.map Dt.str (Txt.words z)).isEmpty = false from by
        obtain ⟨a, r, e⟩ := List.exists_cons_of_ne_nil hw
        rw [e]
        rfl]
      walk_at "go"
      refine join_words s1 (by omega) ?_
      walk_at "go"
      exact h S Le.refl
theorem bl_n3 (T : Tx K mg) (c_label_for : CalX P w K mg base 3 "label_for" (spD K (cLabel K)) []) (c_role_of : CalX P w K mg base 2 "role_of" (spD K (cRole K)) []) (m_Node_content : MetX P w K mg base 2 (He.ga K "Node") "content" (spD K (cCont K)) []) (hr : Room 3 (A0.deeper (envOfC "name_of" (defScope s_name_of) s0.heap.objs.size f cdv))) :
    ∃ t, PSs (ncx P w K mg base f cdv A0 outer s0 HE E) bd_n3 (tDS K E e t) ∧ ∀ (D : DEnds) (S : Store) (dc : Addr) (A : List Tri) (T0 : Tr) (j : Nat) (tag : Str) (fd : Fd) (c : List Tr) (ab : Ab) (o : Option Str) (u3 u4 : Option Dt), ElAt K S dc A T0 j tag fd c ab → (∀ z, o = some z → StOk z) → (∀ S', Le S S' → D.rt (.str (Txt.join " " (Txt.words (told4 T0 fd (told3 tag fd (.el tag fd c) o))))) S') → t D [some (.ref (ad A j)), some (.ref dc), some (oS o), u3, u4] S := by
  obtain ⟨t4, p_n4, h_n4⟩ := bl_n4 (f := f) (cdv := cdv) (A0 := A0) (outer := outer) (s0 := s0) (HE := HE) (E := E) (e := e) T c_label_for hr
  refine ⟨_, (dss_cons (ds_if (PW.pt (dt_and (dt_cmp od_is (dv (pv 2)) de_non) (pw_and1 (dt_cmp (od_notin rfl (hW_of hr)) (de_call rfl c_role_of dfl_nil hr (by decide) rfl paX (da_cons (dv (pv 0)) da_nil)) (de_tup (da_cons de_str (da_cons de_str (da_cons de_str da_nil)))))))) (dss_one (ds_set (i := 2) sc_name_of.nd rfl (Or.inl rfl) (de_meth0 (nm := nm_Node) rfl m_Node_content (by decide +kernel) dfl_nil hr (by decide) paX (dv (pv 0))))) dss_nil)
  p_n4), fun D S dc A T0 j tag fd c ab o u3 u4 el ho h => ?_⟩
  obtain ⟨t, c2, v, ck, g1, g2, _⟩ := el.d.el el.h
  cases o with
  | some z =>
    walk_at "go"
    exact h_n4 D S dc A T0 j tag fd c ab (some z) u3 u4 el ho h
  | none =>
    rw [show told3 tag fd (.el tag fd c) none = if noOwn (roleF tag fd) = true then none else some (content (.el tag fd c)) from rfl] at h
    walk_at "go"
    refine ⟨dc, A, T0, j, tag, fd, c, ab, rfl, el, ?_⟩
    cases hro : roleF tag fd with
    | none =>
      rw [hro, show noOwn none = false from rfl, if_neg (by decide)] at h
      walk_at "go"
      refine ⟨⟨rfl, rfl, rfl⟩, ?_⟩
      rw [show (if true = true then !memD Dt.non [Dt.str "field", .str "mark", .str "image"] else memD Dt.non [Dt.str "field", .str "mark", .str "image"]) = true from rfl]
      walk_at "go"
      refine ⟨dc, A, T0, j, _, ab, rfl, el.d, el.h, el.ok.tx.sub el.h, fun S1 le1 => ?_⟩
      walk_at "go"
      exact h_n4 D S1 dc A T0 j tag fd c ab (some (content (Tr.el tag fd c))) u3 u4 (el.le le1) (fun z hz => by injection hz with hz; rw [← hz]; exact content_ok (el.ok.tx.sub el.h) (ElAt.sz el.d el.h)) fun S' le' => h S' (le1.trans le')
    | some r =>
      rw [hro] at h
      walk_at "go"
      refine nin_tup ["field", "mark", "image"] rfl ?_
      have en : noOwn (some r) = decide (r ∈ (["field", "mark", "image"] : List Str)) := by
        refine Bool.eq_iff_iff.mpr ?_
        show (decide _ || decide _ || decide _) = true ↔ _
        simp [or_assoc]
      rw [en] at h
      walk_at "go"
      refine mdecN (fun h1 => ?_) (fun h1 => ?_)
      · rw [if_neg (by rw [decide_eq_false h1]; decide)] at h
        walk_at "go"
        refine ⟨dc, A, T0, j, _, ab, rfl, el.d, el.h, el.ok.tx.sub el.h, fun S1 le1 => ?_⟩
        walk_at "go"
        exact h_n4 D S1 dc A T0 j tag fd c ab (some (content (Tr.el tag fd c))) u3 u4 (el.le le1) (fun z hz => by injection hz with hz; rw [← hz]; exact content_ok (el.ok.tx.sub el.h) (ElAt.sz el.d el.h)) fun S' le' => h S' (le1.trans le')
      · rw [if_pos (by rw [decide_eq_true h1])] at h
        walk_at "go"
        exact h_n4 D S dc A T0 j tag fd c ab none u3 u4 el nofun h
theorem bl_n2 (T : Tx K mg) (m_Node_attribute : MetX P w K mg base 1 (He.ga K "Node") "attribute" (spD K (cAttr K)) []) (c_label_for : CalX P w K mg base 3 "label_for" (spD K (cLabel K)) []) (c_role_of : CalX P w K mg base 2 "role_of" (spD K (cRole K)) []) (m_Node_content : MetX P w K mg base 2 (He.ga K "Node") "content" (spD K (cCont K)) []) (hr : Room 3 (A0.deeper (envOfC "name_of" (defScope s_name_of) s0.heap.objs.size f cdv))) :
    ∃ t, PSs (ncx P w K mg base f cdv A0 outer s0 HE E) bd_n2 (tDS K E e t) ∧ ∀ (D : DEnds) (S : Store) (dc : Addr) (A : List Tri) (T0 : Tr) (j : Nat) (tag : Str) (fd : Fd) (c : List Tr) (ab : Ab) (o : Option Str) (u3 u4 : Option Dt), ElAt K S dc A T0 j tag fd c ab → (∀ z, o = some z → StOk z) → (∀ S', Le S S' → D.rt (.str (Txt.join " " (Txt.words (told4 T0 fd (told3 tag fd (.el tag fd c) (told2 fd o)))))) S') → t D [some (.ref (ad A j)), some (.ref dc), some (oS o), u3, u4] S := by
  obtain ⟨t3, p_n3, h_n3⟩ := bl_n3 (f := f) (cdv := cdv) (A0 := A0) (outer := outer) (s0 := s0) (HE := HE) (E := E) (e := e) T c_label_for c_role_of m_Node_content hr
  refine ⟨_, (dss_cons (ds_for poX rfl (di_tup rfl (de_tup (da_cons de_str (da_cons de_str da_nil)))) (dg_name (i := 4) sc_name_of.nd rfl (Or.inl rfl)) (dss_one (ds_set (i := 2) sc_name_of.nd rfl (Or.inl rfl) (de_if (dt_cmp od_is (dv (pv 2)) de_non) (de_meth (nm := nm_Node) rfl m_Node_attribute (by decide +kernel) dfl_nil hr (by decide) paX (dv (pv 0)) (da_cons (dv (pv 4)) da_nil)) (dv (pv 2))))))
  p_n3), fun D S dc A T0 j tag fd c ab o u3 u4 el ho h => ?_⟩
  obtain ⟨t, c2, v, ck, g1, g2, _⟩ := el.d.el el.h
  have ok := (el.ok.at_ j tag fd c ab el.h).1
  cases o with
  | some z =>
    walk_at "go"
    exact h_n3 D S dc A T0 j tag fd c ab (some z) u3 _ el ho h
  | none =>
    walk_at "go"
    refine el.attr ?_
    cases e1 : aGet fd "alt" with
    | some z =>
      rw [show told2 fd none = some z from by unfold told2; rw [e1]] at h
      walk_at "go"
      exact h_n3 D S dc A T0 j tag fd c ab (some z) u3 _ el (fun y hy => by injection hy with hy; rw [← hy]; exact ok.st e1) h
    | none =>
      rw [show told2 fd none = aGet fd "title" from by unfold told2; rw [e1]] at h
      walk_at "go"
      refine el.attr ?_
      walk_at "go"
      exact h_n3 D S dc A T0 j tag fd c ab (aGet fd "title") u3 _ el (fun y hy => ok.st hy) h
end
section
variable {P : Program} {w : World} {K : PySem.W.Frag} {mg : Str → Option Value} {base : Heap}
theorem ok_name_of (T : Tx K mg) (m_Node_attribute : MetX P w K mg base 1 (He.ga K "Node") "attribute" (spD K (cAttr K)) []) (m_Document_by_id : MetX P w K mg base 2 (He.ga K "Document") "by_id" (spD K (cById K)) []) (m_Node_content : MetX P w K mg base 2 (He.ga K "Node") "content" (spD K (cCont K)) []) (c_role_of : CalX P w K mg base 2 "role_of" (spD K (cRole K)) []) (c_label_for : CalX P w K mg base 3 "label_for" (spD K (cLabel K)) []) {f : Addr} {fd : FuncData} (F : FunD K "name_of" "name_of" (defArgs s_name_of) (defBody s_name_of) (defScope s_name_of) [] [] f fd) : FnOk P w K mg base (L2.CX P w) 4 f fd ["node", "document"] (spD K (cNam K)) := by
  refine dfn 5 F sc_name_of (fun ds S q e h => ?_) rfl (fun cdv A0 outer s H E e hr => ?_)
  · obtain ⟨_, _, _, _, _, _, _, _, rfl, _⟩ := h
    rfl
  obtain ⟨t2, p_n2, h_n2⟩ := bl_n2 (f := f) (cdv := cdv) (A0 := A0) (outer := outer) (s0 := s) (HE := H) (E := E) (e := e) T m_Node_attribute c_label_for c_role_of m_Node_content hr
  refine ⟨_, (dss_cons (ds_set (i := 2) sc_name_of.nd rfl (Or.inl rfl) (de_meth (nm := nm_Node) rfl m_Node_attribute (by decide +kernel) dfl_nil hr (by decide) paX (dv (pv 0)) (da_cons de_str da_nil)))
  (dss_cons (ds_if (PW.pt (dt_and (dt_cmp od_is (dv (pv 2)) de_non) (pw_and1 (dt_cmp od_isNot (de_meth (nm := nm_Node) rfl m_Node_attribute (by decide +kernel) dfl_nil hr (by decide) paX (dv (pv 0)) (da_cons de_str da_nil)) de_non)))) (dss_cons (ds_set (i := 3) sc_name_of.nd rfl (Or.inl rfl) (de_meth (nm := nm_Document) rfl m_Document_by_id (by decide +kernel) dfl_nil hr (by decide) paX (dv (pv 1)) (da_cons (de_meth (nm := nm_Node) rfl m_Node_attribute (by decide +kernel) dfl_nil hr (by decide) paX (dv (pv 0)) (da_cons de_str da_nil)) da_nil)))
  (dss_one (ds_set (i := 2) sc_name_of.nd rfl (Or.inl rfl) (de_if (dt_cmp od_is (dv (pv 3)) de_non) de_non (de_meth0 (nm := nm_Node) rfl m_Node_content (by decide +kernel) dfl_nil hr (by decide) paX (dv (pv 3))))))) dss_nil)
  p_n2)), fun ds S q h => ?_⟩
  obtain ⟨dc, A, T0, j, tag, fd, c, ab, rfl, el, h⟩ := h
  obtain ⟨t, c2, v, ck, g1, g2, _⟩ := el.d.el el.h
  obtain ⟨dn, vv, hdc, _⟩ := el.d.hdc
  have ok := (el.ok.at_ j tag fd c ab el.h).1
  walk_at "go"
  refine el.attr ?_
  cases e1 : aGet fd "label" with
  | some z =>
    have et : told1 T0 fd = some z := by unfold told1; rw [e1]
    walk_at "go"
    refine h_n2 _ S dc A T0 j tag fd c ab (some z) _ _ el (fun y hy => by injection hy with hy; rw [← hy]; exact ok.st e1) fun S' le' => ?_
    have := h S' le'
    unfold nameF at this
    rw [et] at this
    exact this
  | none =>
    walk_at "go"
    refine el.attr ?_
    cases e2 : aGet fd "labelledby" with
    | none =>
      have et : told1 T0 fd = none := by unfold told1; rw [e1, e2]
      walk_at "go"
      refine h_n2 _ S dc A T0 j tag fd c ab none _ _ el nofun fun S' le' => ?_
      have := h S' le'
      unfold nameF at this
      rw [et] at this
      exact this
    | some l =>
      have et : told1 T0 fd = (byId T0 l).map fun x => content x.2.1 := by unfold told1; rw [e1, e2]
      walk_at "go"
      refine el.attr ?_
      rw [e2]
      walk_at "go"
      refine ⟨dc, A, T0, l, rfl, el.d, fun S1 le1 => ?_⟩
      have el1 := el.le le1
      cases e3 : byId T0 l with
      | none =>
        rw [e3] at et
        walk_at "go"
        refine h_n2 _ S1 dc A T0 j tag fd c ab none _ _ el1 nofun fun S' le' => ?_
        have := h S' (le1.trans le')
        unfold nameF at this
        rw [et] at this
        exact this
      | some x =>
        rw [e3] at et
        have hm : x ∈ pre 0 [] T0 := List.mem_of_find?_eq_some e3
        obtain ⟨tx, cx, q1, _⟩ := el1.d.at hm
        walk_at "go"
        refine ⟨dc, A, T0, x.1, x.2.1, x.2.2, rfl, el1.d, hm, el.ok.tx.sub hm, fun S2 le2 => ?_⟩
        walk_at "go"
        refine h_n2 _ S2 dc A T0 j tag fd c ab (some (content x.2.1)) _ _ (el1.le le2) (fun z hz => by injection hz with hz; rw [← hz]; exact content_ok (el.ok.tx.sub hm) (ElAt.sz el.d hm)) fun S' le' => ?_
        have := h S' (le1.trans (le2.trans le'))
        unfold nameF at this
        rw [et] at this
        exact this
end
end K19

open PySem PySem.Spec PyProof.Rows L2 Pr Dn LamX

namespace K19
open Mk
def cOut (K : PySem.W.Frag) : DSp := fun ds S q _ => ∃ dc A T, ds = [.ref dc] ∧ Doc K S dc A T ∧ TrOk T ∧ ∀ S', Le S S' → q (.tup ((outF T).map oRowD)) S'
def cHeads (K : PySem.W.Frag) : DSp := fun ds S q _ => ∃ dc A T, ds = [.ref dc] ∧ Doc K S dc A T ∧ TrOk T ∧ ∀ S', Le S S' → q (.tup [.tup (((pre 0 [] T).filterMap (hRow T)).map hRowD), .int (gapF ((pre 0 [] T).filterMap (hRow T))).1]) S'
section
variable {P : Program} {w : World} {K : PySem.W.Frag} {mg : Str → Option Value} {base : Heap}
theorem ok_outline (T : Tx K mg) (m_Node_all_nodes : MetX P w K mg base 1 (He.ga K "Node") "all_nodes" (spD K (cAll K)) []) (m_Node_is_text : MetX P w K mg base 1 (He.ga K "Node") "is_text" (spD K (cIsText K)) []) (m_Node_path : MetX P w K mg base 1 (He.ga K "Node") "path" (spD K (cPath K)) []) (c_is_left_out : CalX P w K mg base 2 "is_left_out" (spD K (cLeft K)) []) (c_role_of : CalX P w K mg base 2 "role_of" (spD K (cRole K)) []) (c_name_of : CalX P w K mg base 4 "name_of" (spD K (cNam K)) []) {f : Addr} {fd : FuncData} (F : FunD K "outline" "outline" (defArgs s_outline) (defBody s_outline) (defScope s_outline) [] [] f fd) : FnOk P w K mg base (L2.CX P w) 5 f fd ["document"] (spD K (cOut K)) := by
  refine dfn 5 F sc_outline (fun ds S q e h => ?_) rfl (fun cdv A0 outer s H E e hr => ⟨_, (dss_cons (ds_set (i := 1) sc_outline.nd rfl (Or.inl rfl) (de_lstO da_nil))
  (dss_cons (ds_for poX rfl (di_lst rfl (de_meth0 (nm := nm_Node) rfl m_Node_all_nodes (by decide +kernel) dfl_nil hr (by decide) paX (de_fld rfl (fd_Document_root T) (dv (pv 0))))) (dg_name (i := 2) sc_outline.nd rfl (Or.inl rfl)) (dss_one (ds_if (PW.pt (dt_and (dt_not (de_tru rfl (de_meth0 (nm := nm_Node) rfl m_Node_is_text (by decide +kernel) dfl_nil hr (by decide) paX (dv (pv 2))))) (dt_and (dt_not (de_tru rfl (de_call rfl c_is_left_out dfl_nil hr (by decide) rfl paX (da_cons (dv (pv 2)) da_nil)))) (pw_and1 (dt_cmp od_isNot (de_call rfl c_role_of dfl_nil hr (by decide) rfl paX (da_cons (dv (pv 2)) da_nil)) de_non))))) (dss_cons (ds_setLc (i := 3) (own := [("one", 4)]) rfl sc_outline.nd rfl rfl (sw_true rfl rfl rfl (by decide +kernel)) (di_lst rfl (de_sl rfl (de_meth0 (nm := nm_Node) rfl m_Node_path (by decide +kernel) dfl_nil hr (by decide) paX (dv (pv 2))) do_none (do_some (de_neg de_int)))) (blkOk_by (own := [("one", 4)]) (N := sl_outline) (sc := defScope s_outline) (by decide +kernel)) (fun _ _ _ _ _ => (gw_name (i := 4) sc_outline.nd rfl (Or.inl rfl) (by decide))) (fun _ _ _ _ _ => (ts_one (dt_cmp od_isNot (de_call rfl c_role_of dfl_nil hr (by decide) rfl passL (da_cons (dv (pv 4)) da_nil)) de_non))) (fun _ _ _ _ _ => (dv (pv 4))))
  (dss_one (ds_expr (de_bm rfl is_ls PySem.F.plainAttrs_list PySem.F.slot_list_append PySem.F.type_list_append md_append (dv (pv 1)) (da_cons (de_tup (da_cons (de_callB (cd_len rfl) (by rfl) T.b_len (by decide +kernel) (da_cons (dv (pv 3)) da_nil)) (da_cons (de_call rfl c_role_of dfl_nil hr (by decide) rfl paX (da_cons (dv (pv 2)) da_nil)) (da_cons (de_call rfl c_name_of dfl_nil hr (by decide) rfl paX (da_cons (dv (pv 2)) (da_cons (dv (pv 0)) da_nil))) da_nil)))) da_nil))))) dss_nil)))
  (dss_one (ds_ret (de_tupOf rfl (by rfl) T.b_tuple (dv (pv 1))))))), fun ds S q h => ?_⟩)
  · obtain ⟨_, _, _, rfl, _⟩ := h
    rfl
  obtain ⟨dc, A, T0, rfl, hd, ok, h⟩ := h
  obtain ⟨dn, vv, hdc, _⟩ := hd.hdc
  have h0 := pre_head T0 0 []
  obtain ⟨t0, c0, g0, _⟩ := hd.at h0
  walk_at "go"
  intro pf hpf
  have le0 := Le.refl.put hpf (c := Cell.lst [])
  have hd0 := hd.le le0
  have g0 := le0 _ _ g0
  have hdc := le0 _ _ hdc
  walk_at "go"
  refine ⟨dc, A, T0, 0, T0, [], rfl, hd0, h0, fun S1 p le1 np hp => ?_⟩
  have hf1 : S1 pf = some (.lst []) := le1 _ _ sput_same
  obtain ⟨npf, np0⟩ := sput_free np
  have le01 : ∀ {S'}, (∀ b c, S1 b = some c → b ≠ pf → S' b = some c) → Le S S' := fun hk b c hb => hk b c (le1 _ _ (le0 _ _ hb)) fun e => by rw [e, hpf] at hb; cases hb
  rw [refs_pre (ab := [])] at hp
  walk_at "go"
  refine forGo_at (fun x : En => Dt.ref (ad A x.1)) (pre 0 [] T0) (fun i δ S2 => (∀ b c, S1 b = some c → b ≠ pf → S2 b = some c) ∧ S2 pf = some (.lst ((((pre 0 [] T0).take i).filterMap (oRow T0)).map oRowD)) ∧ ∃ u2 u3 u4, δ = [some (.ref dc), some (.ref pf), u2, u3, u4]) (fun i δ S' hI => ?_) (fun i x δ S' hx hI nx2 kk => ?_) (fun δ S' hI => ?_) ⟨fun b c hb _ => hb, hf1, _, _, _, rfl⟩
  · exact hI.1 _ _ hp npf
  · obtain ⟨hk, hf, u2, u3, u4, rfl⟩ := hI
    have hd2 := hd.le (le01 hk)
    have hm := List.mem_of_getElem? hx
    have no : oRow T0 x = none → ∀ u2 u3 u4 S3, Le S' S3 → nx2 [some (.ref dc), some (.ref pf), u2, u3, u4] S3 := fun hn u2 u3 u4 S3 le3 => by
      refine kk _ _ ⟨fun b c hb hne => le3 _ _ (hk b c hb hne), ?_, _, _, _, rfl⟩
      rw [fm_take _ hx, hn]
      simp only [Option.toList, List.append_nil]
      exact le3 _ _ hf
    obtain ⟨jx, v, abx⟩ := x
    cases v with
    | tx z =>
      obtain ⟨t, c, q1, _⟩ := hd2.tx hm
      walk_at "go"
      refine hd2.isT hm (fun he => ?_) (fun he => ?_)
      · walk_at "go"
        exact no rfl _ _ _ _ Le.refl
      · cases he
    | el tx fx cx =>
      have el : ElAt K S' dc A T0 jx tx fx cx abx := ⟨hd2, hm, ok⟩
      obtain ⟨t, c, vx, kx, q1, q2, _⟩ := hd2.el hm
      walk_at "go"
      refine hd2.isT hm (fun he => ?_) (fun he => ?_)
      · cases he
      · walk_at "go"
        refine ⟨dc, A, T0, jx, tx, fx, cx, abx, rfl, el, fun S2 le2 => ?_⟩
        have el2 := el.le le2
        have q1 := le2 _ _ q1
        have q2 := le2 _ _ q2
        cases hlo : leftOut abx (Tr.el tx fx cx) with
        | true =>
          walk_at "go"
          exact no (by unfold oRow; show (if leftOut abx (Tr.el tx fx cx) = true then _ else _) = _; rw [if_pos hlo]) _ _ _ _ le2
        | false =>
          walk_at "go"
          refine ⟨dc, A, T0, jx, tx, fx, cx, abx, rfl, el2, ?_⟩
          cases hro : roleF tx fx with
          | none =>
            walk_at "go"
            exact no (by unfold oRow; show (if leftOut abx (Tr.el tx fx cx) = true then _ else _) = _; rw [if_neg (by rw [hlo]; decide), hro]; rfl) _ _ _ _ le2
          | some r =>
            walk_at "go"
            refine el2.path fun S3 le3 => ?_
            have el3 := el2.le le3
            have q1 := le3 _ _ q1
            have lab : abx.length ≤ 900 := by
              have h1 : abx.length + 0 ≤ 0 + jx := pre_ab hm
              have h2 := pre_lt hm
              have h3 := hd.sz
              omega
            have ec : cutD (List.map (fun x : Nat × Tr => Dt.ref (ad A x.1)) (abx ++ [(jx, Tr.el tx fx cx)])) none (some (-1)) = abx.map fun x => Dt.ref (ad A x.1) := by
              rw [cut_init, List.map_append]
              exact List.dropLast_concat
            walk_at "go"
            rw [ec]
            refine ⟨by rw [List.length_map]; exact size6 (by omega), lc_go ?_⟩
            refine lc_choose (fun x : Nat × Tr => Dt.ref (ad A x.1)) (fun x => rB x.2) (fun x => Dt.ref (ad A x.1)) trivial _ (fun y hy kY kN hY hN => ?_) ?_
            · obtain ⟨i2, hi2⟩ := List.getElem?_of_mem hy
              obtain ⟨tag', fd', c', ab', ex, el'⟩ := el3.anc (i := i2) (x := y) (by rw [List.getElem?_append_left (List.getElem?_eq_some_iff.mp hi2).1]; exact hi2)
              walk_at "go"
              refine ⟨dc, A, T0, y.1, tag', fd', c', ab', rfl, el', ?_⟩
              have erb : rB y.2 = (roleF tag' fd').isSome := by rw [ex]; rfl
              cases hr2 : roleF tag' fd' with
              | none =>
                walk_at "go"
                exact hN (by rw [erb, hr2]; rfl)
              | some r2 =>
                walk_at "go"
                exact hY (by rw [erb, hr2]; rfl)
            · have hf3 : S3 pf = _ := le3 _ _ (le2 _ _ hf)
              have lf : (((pre 0 [] T0).take i).filterMap (oRow T0)).length ≤ 900 := by
                have h1 := List.length_filterMap_le (oRow T0) ((pre 0 [] T0).take i)
                have h2 := hd.sz
                have h3 : (pre 0 [] T0).length = size T0 := pre_len
                rw [List.length_take] at h1
                omega
              walk_at "go"
              refine ⟨dc, A, T0, jx, tx, fx, cx, abx, rfl, el3, ?_⟩
              rw [hro]
              walk_at "go"
              refine ⟨dc, A, T0, jx, tx, fx, cx, abx, rfl, el3, fun S4 le4 => ?_⟩
              have hf4 : S4 pf = _ := le4 _ _ hf3
              walk_at "go"
              refine kk _ _ ⟨fun b c hb hne => by rw [sput_ne hne]; exact le4 _ _ (le3 _ _ (le2 _ _ (hk b c hb hne))), ?_, _, _, _, rfl⟩
              rw [fm_take _ hx, show oRow T0 (jx, Tr.el tx fx cx, abx) = some (level abx, r, nameF T0 tx fx (Tr.el tx fx cx)) from by
                unfold oRow
                show (if leftOut abx (Tr.el tx fx cx) = true then _ else _) = _
                rw [if_neg (by rw [hlo]; decide), hro]
                rfl, List.map_append, sput_same, List.length_map]
              rfl
  · obtain ⟨hk, hf, u2, u3, u4, rfl⟩ := hI
    rw [List.take_length] at hf
    walk_at "go"
    exact h S' (le01 hk)
set_option hygiene false in
local macro_rules | `(tactic| walk_at "hd") => `(tactic| (
  walk_at "go"
  refine ⟨dc, A, T0, jx, tx, fx, cx, abx, rfl, el2, fun S4 le4 => ?_⟩
  have hf4 : S4 pf = _ := le4 _ _ hf2
  walk_at "go"))
theorem ok_heads (T : Tx K mg) (m_Node_all_nodes : MetX P w K mg base 1 (He.ga K "Node") "all_nodes" (spD K (cAll K)) []) (m_Node_is_text : MetX P w K mg base 1 (He.ga K "Node") "is_text" (spD K (cIsText K)) []) (c_is_left_out : CalX P w K mg base 2 "is_left_out" (spD K (cLeft K)) []) (c_role_of : CalX P w K mg base 2 "role_of" (spD K (cRole K)) []) (c_name_of : CalX P w K mg base 4 "name_of" (spD K (cNam K)) []) {f : Addr} {fd : FuncData} (F : FunD K "headings" "headings" (defArgs s_headings) (defBody s_headings) (defScope s_headings) [] [] f fd) : FnOk P w K mg base (L2.CX P w) 5 f fd ["document"] (spD K (cHeads K)) := by
  refine dfn 6 F sc_headings (fun ds S q e h => ?_) rfl (fun cdv A0 outer s H E e hr => ⟨_, (dss_cons (ds_par3 (i := 1) (j := 2) (l := 3) (by rfl) sc_headings.nd rfl rfl rfl (by decide) (by decide) (by decide) rfl rfl rfl (da_cons (de_lstO da_nil) (da_cons de_int (da_cons de_int da_nil))) (by rfl))
  (dss_cons (ds_for poX rfl (di_lst rfl (de_meth0 (nm := nm_Node) rfl m_Node_all_nodes (by decide +kernel) dfl_nil hr (by decide) paX (de_fld rfl (fd_Document_root T) (dv (pv 0))))) (dg_name (i := 4) sc_headings.nd rfl (Or.inl rfl)) (dss_one (ds_if (PW.pt (dt_and (dt_not (de_tru rfl (de_meth0 (nm := nm_Node) rfl m_Node_is_text (by decide +kernel) dfl_nil hr (by decide) paX (dv (pv 4))))) (dt_and (dt_not (de_tru rfl (de_call rfl c_is_left_out dfl_nil hr (by decide) rfl paX (da_cons (dv (pv 4)) da_nil)))) (pw_and1 (dt_cmp (od_eq rfl (hU_of hr)) (de_call rfl c_role_of dfl_nil hr (by decide) rfl paX (da_cons (dv (pv 4)) da_nil)) de_str))))) (dss_cons (ds_set (i := 5) sc_headings.nd rfl (Or.inl rfl) (de_if (dt_cmp (od_eq rfl (hU_of hr)) (de_fld rfl (fd_Node_tag T) (dv (pv 4))) de_str) de_int de_int))
  (dss_cons (ds_expr (de_bm rfl is_ls PySem.F.plainAttrs_list PySem.F.slot_list_append PySem.F.type_list_append md_append (dv (pv 1)) (da_cons (de_tup (da_cons (dv (pv 5)) (da_cons (de_call rfl c_name_of dfl_nil hr (by decide) rfl paX (da_cons (dv (pv 4)) (da_cons (dv (pv 0)) da_nil))) da_nil))) da_nil)))
  (dss_cons (ds_aug (i := 2) sc_headings.nd rfl (Or.inl rfl) (de_if (dt_cmp od_gt (dv (pv 5)) (de_op (od_add rfl) (dv (pv 3)) de_int)) de_int de_int) ip_addD)
  (dss_one (ds_set (i := 3) sc_headings.nd rfl (Or.inl rfl) (dv (pv 5))))))) dss_nil)))
  (dss_one (ds_ret (de_tup (da_cons (de_tupOf rfl (by rfl) T.b_tuple (dv (pv 1))) (da_cons (dv (pv 2)) da_nil))))))), fun ds S q h => ?_⟩)
  · obtain ⟨_, _, _, rfl, _⟩ := h
    rfl
  obtain ⟨dc, A, T0, rfl, hd, ok, h⟩ := h
  obtain ⟨dn, vv, hdc, _⟩ := hd.hdc
  have h0 := pre_head T0 0 []
  obtain ⟨t0, c0, g0, _⟩ := hd.at h0
  walk_at "go"
  intro pf hpf
  have le0 := Le.refl.put hpf (c := Cell.lst [])
  have hd0 := hd.le le0
  have g0 := le0 _ _ g0
  have hdc := le0 _ _ hdc
  walk_at "go"
  refine ⟨dc, A, T0, 0, T0, [], rfl, hd0, h0, fun S1 p le1 np hp => ?_⟩
  have hf1 : S1 pf = some (.lst []) := le1 _ _ sput_same
  obtain ⟨npf, np0⟩ := sput_free np
  have le01 : ∀ {S'}, (∀ b c, S1 b = some c → b ≠ pf → S' b = some c) → Le S S' := fun hk b c hb => hk b c (le1 _ _ (le0 _ _ hb)) fun e => by rw [e, hpf] at hb; cases hb
  rw [refs_pre (ab := [])] at hp
  walk_at "go"
  refine forGo_at (fun x : En => Dt.ref (ad A x.1)) (pre 0 [] T0) (fun i δ S2 => (∀ b c, S1 b = some c → b ≠ pf → S2 b = some c) ∧ S2 pf = some (.lst ((((pre 0 [] T0).take i).filterMap (hRow T0)).map hRowD)) ∧ ∃ u4 u5, δ = [some (.ref dc), some (.ref pf), some (.int (gapF (((pre 0 [] T0).take i).filterMap (hRow T0))).1), some (.int (gapF (((pre 0 [] T0).take i).filterMap (hRow T0))).2), u4, u5]) (fun i δ S' hI => ?_) (fun i x δ S' hx hI nx2 kk => ?_) (fun δ S' hI => ?_) ⟨fun b c hb _ => hb, hf1, _, _, rfl⟩
  · exact hI.1 _ _ hp npf
  · obtain ⟨hk, hf, u4, u5, rfl⟩ := hI
    have hd2 := hd.le (le01 hk)
    have hm := List.mem_of_getElem? hx
    have no : hRow T0 x = none → ∀ u4 u5 S3, Le S' S3 → nx2 [some (.ref dc), some (.ref pf), some (.int (gapF (((pre 0 [] T0).take i).filterMap (hRow T0))).1), some (.int (gapF (((pre 0 [] T0).take i).filterMap (hRow T0))).2), u4, u5] S3 := fun hn u4 u5 S3 le3 => by
      refine kk _ _ ⟨fun b c hb hne => le3 _ _ (hk b c hb hne), ?_, u4, u5, ?_⟩
      · rw [fm_take _ hx, hn]
        simp only [Option.toList, List.append_nil]
        exact le3 _ _ hf
      · rw [fm_take _ hx, hn]
        simp only [Option.toList, List.append_nil]
    obtain ⟨jx, v, abx⟩ := x
    cases v with
    | tx z =>
      obtain ⟨t, c, q1, _⟩ := hd2.tx hm
      walk_at "go"
      refine hd2.isT hm (fun he => ?_) (fun he => ?_)
      · walk_at "go"
        exact no rfl _ _ _ Le.refl
      · cases he
    | el tx fx cx =>
      have el : ElAt K S' dc A T0 jx tx fx cx abx := ⟨hd2, hm, ok⟩
      obtain ⟨t, c, vx, kx, q1, q2, _⟩ := hd2.el hm
      walk_at "go"
      refine hd2.isT hm (fun he => ?_) (fun he => ?_)
      · cases he
      · walk_at "go"
        refine ⟨dc, A, T0, jx, tx, fx, cx, abx, rfl, el, fun S2 le2 => ?_⟩
        have el2 := el.le le2
        have q1 := le2 _ _ q1
        have q2 := le2 _ _ q2
        have uh : hRow T0 (jx, Tr.el tx fx cx, abx) = if leftOut abx (Tr.el tx fx cx) = true then none else if roleF tx fx = some ("heading" : Str) then some (lvlF tx, nameF T0 tx fx (.el tx fx cx)) else none := rfl
        cases hlo : leftOut abx (Tr.el tx fx cx) with
        | true =>
          rw [if_pos hlo] at uh
          walk_at "go"
          exact no uh _ _ _ le2
        | false =>
          rw [if_neg (by rw [hlo]; decide)] at uh
          walk_at "go"
          refine ⟨dc, A, T0, jx, tx, fx, cx, abx, rfl, el2, ?_⟩
          cases hro : roleF tx fx with
          | none =>
            rw [hro, if_neg (by decide)] at uh
            walk_at "go"
            exact no uh _ _ _ le2
          | some r =>
            rw [hro] at uh
            walk_at "go"
            refine mdec (fun h1 => ?_) (fun h1 => ?_)
            · rw [if_pos (by rw [h1])] at uh
              have lf : (((pre 0 [] T0).take i).filterMap (hRow T0)).length ≤ 900 := by
                have h1 := List.length_filterMap_le (hRow T0) ((pre 0 [] T0).take i)
                have h2 := hd.sz
                have h3 : (pre 0 [] T0).length = size T0 := pre_len
                rw [List.length_take] at h1
                omega
              have fin : ∀ S4 (x : Int) u4 u5, Le S2 S4 → x = lvlF tx → nx2 [some (.ref dc), some (.ref pf), some (.int ((gapF (((pre 0 [] T0).take i).filterMap (hRow T0))).1 + (if (gapF (((pre 0 [] T0).take i).filterMap (hRow T0))).2 + 1 < x then 1 else 0))), some (.int x), u4, u5] (sput S4 pf (.lst ((((pre 0 [] T0).take i).filterMap (hRow T0)).map hRowD ++ [.tup [.int x, .str (nameF T0 tx fx (.el tx fx cx))]]))) := fun S4 x u4 u5 le4 ex => by
                subst ex
                refine kk _ _ ⟨fun b c hb hne => by rw [sput_ne hne]; exact le4 _ _ (le2 _ _ (hk b c hb hne)), ?_, u4, u5, ?_⟩
                · rw [fm_take _ hx, uh, List.map_append, sput_same]
                  rfl
                · rw [fm_take _ hx, uh]
                  show _ = [_, _, some (Dt.int (gapF (_ ++ [_])).1), some (Dt.int (gapF (_ ++ [_])).2), _, _]
                  rw [gapF_snoc]
              have hf2 : S2 pf = _ := le2 _ _ hf
              walk_at "go"
              refine mdec (fun h2 => ?_) (fun h2 => ?_)
              · walk_at "hd"
                have fin := fin S4 2 (some (.ref (ad A jx))) (some (.int 2)) le4 (if_pos h2).symm
                refine mdec (fun h3 => ?_) (fun h3 => ?_)
                · rw [if_pos h3] at fin
                  walk_at "go"
                  exact fin
                · rw [if_neg h3, Int.add_zero] at fin
                  walk_at "go"
                  rw [Int.add_zero]
                  exact fin
              · walk_at "hd"
                have fin := fin S4 1 (some (.ref (ad A jx))) (some (.int 1)) le4 (if_neg h2).symm
                refine mdec (fun h3 => ?_) (fun h3 => ?_)
                · rw [if_pos h3] at fin
                  walk_at "go"
                  exact fin
                · rw [if_neg h3, Int.add_zero] at fin
                  walk_at "go"
                  rw [Int.add_zero]
                  exact fin
            · rw [if_neg (fun k => h1 (by injection k))] at uh
              walk_at "go"
              exact no uh _ _ _ le2
  · obtain ⟨hk, hf, u4, u5, rfl⟩ := hI
    rw [List.take_length] at hf
    walk_at "go"
    rw [List.take_length]
    exact h S' (le01 hk)
end
end K19

namespace K19
open PySem PySem.Spec PyProof.Rows L2 Pr Dn Mk
def srtR (rows : List (Int × Nat × Nat)) : List (Int × Nat × Nat) := rows.mergeSort fun a b => PySem.W.dataLe false (fun d => py (id d)) (fRowD a) (fRowD b)
theorem srtR_eq (rows : List (Int × Nat × Nat)) : srtD id (rows.map fRowD) = (srtR rows).map fRowD := by
  unfold srtD srtR
  exact (List.map_mergeSort (f := fRowD) (r := fun a b => PySem.W.dataLe false (fun d => py (id d)) (fRowD a) (fRowD b)) (s := PySem.W.dataLe false fun d => py (id d)) fun a _ b _ => rfl).symm
def focF (T : Tr) : List Nat := (srtR (fRows (pre 0 [] T))).map (·.2.2)
theorem srtOk_iii {l : List (Int × Nat × Nat)} : SrtOk (l.map fRowD) := by
  have e : pys (l.map fRowD) = l.map fun r => PyData.tuple [.int r.1, .int (r.2.1 : Nat), .int (r.2.2 : Nat)] := by
    rw [pys_map, List.map_map]
    rfl
  refine ⟨?_, ?_, ?_, fun d hd => ?_⟩
  · rw [areDat_all, List.all_eq_true]
    intro d hd
    obtain ⟨i, _, rfl⟩ := List.mem_map.mp hd
    rfl
  · rw [e]
    exact PySem.W.AllAlike.of fun a b => by simp [PySem.W.alike, PySem.W.alikeAll]
  · rw [e]
    exact PySem.W.Sortable.tuples fun a => ⟨_, _, rfl⟩
  · obtain ⟨i, _, rfl⟩ := List.mem_map.mp hd
    exact Nat.le_of_ble_eq_true rfl
theorem fRows_len (L : List En) : (fRows L).length ≤ L.length := by
  unfold fRows
  rw [List.length_map, List.length_zipIdx]
  exact List.length_filterMap_le _ _
theorem fRows_snoc {L : List En} {i : Nat} {x : En} (hx : L[i]? = some x) : fRows (L.take (i + 1)) = fRows (L.take i) ++ (match fRow x with
  | none => []
  | some y => [(y.1, (fRows (L.take i)).length, y.2)]) := by
  unfold fRows
  rw [fm_take _ hx]
  cases h : fRow x with
  | none => simp
  | some y =>
    rw [List.length_map, List.length_zipIdx]
    show List.map _ ((_ ++ [y]).zipIdx) = _
    rw [List.zipIdx_append, List.map_append, Nat.zero_add]
    rfl
end K19

open PySem PySem.Spec PyProof.Rows L2 Pr Dn LamX

namespace K19
open Mk
def cFoc (K : PySem.W.Frag) : DSp := fun ds S q _ => ∃ dc A T, ds = [.ref dc] ∧ Doc K S dc A T ∧ TrOk T ∧ S (He.cT K ("order_told", none)).2 = some .gtb ∧ S (He.cT K ("focus_order", none)).2 = some .gtb ∧ ∀ S', Le S S' → q (.tup ((focF T).map fun (n : Nat) => Dt.int n)) S'
section
variable {P : Program} {w : World} {K : PySem.W.Frag} {mg : Str → Option Value} {base : Heap}
theorem ok_focus (T : Tx K mg) (m_Node_all_nodes : MetX P w K mg base 1 (He.ga K "Node") "all_nodes" (spD K (cAll K)) []) (m_Node_is_text : MetX P w K mg base 1 (He.ga K "Node") "is_text" (spD K (cIsText K)) []) (m_Node_attribute : MetX P w K mg base 1 (He.ga K "Node") "attribute" (spD K (cAttr K)) []) (c_is_left_out : CalX P w K mg base 2 "is_left_out" (spD K (cLeft K)) []) (c_role_of : CalX P w K mg base 2 "role_of" (spD K (cRole K)) []) (c_order_told : CalX P w K mg base 6 "order_told" (spD K (cOrder K)) []) {f : Addr} {fd : FuncData} (F : FunD K "focus_order" "focus_order" (defArgs s_focus_order) (defBody s_focus_order) (defScope s_focus_order) [] [] f fd) (hTB : ∀ c, fd.code = .ref c → TabB base mg c (He.cT K ("focus_order", none)).2) : FnOk P w K mg base (L2.CX P w) 7 f fd ["document"] (spD K (cFoc K)) := by
  refine dfnC 7 F sc_focus_order hTB (fun ds S q e h => ?_) rfl (fun c0 A0 outer s H E e TB hr => ⟨_, (dss_cons (ds_set (i := 1) sc_focus_order.nd rfl (Or.inl rfl) (de_lstO da_nil))
  (dss_cons (ds_for poX rfl (di_lst rfl (de_meth0 (nm := nm_Node) rfl m_Node_all_nodes (by decide +kernel) dfl_nil hr (by decide) paX (de_fld rfl (fd_Document_root T) (dv (pv 0))))) (dg_name (i := 2) sc_focus_order.nd rfl (Or.inl rfl)) (dss_cons (ds_if (PW.pt (dt_or (de_tru rfl (de_meth0 (nm := nm_Node) rfl m_Node_is_text (by decide +kernel) dfl_nil hr (by decide) paX (dv (pv 2)))) (dt_or (de_tru rfl (de_call rfl c_is_left_out dfl_nil hr (by decide) rfl paX (da_cons (dv (pv 2)) da_nil))) (pw_or1 (dt_cmp od_isNot (de_meth (nm := nm_Node) rfl m_Node_attribute (by decide +kernel) dfl_nil hr (by decide) paX (dv (pv 2)) (da_cons de_str da_nil)) de_non))))) (dss_one ds_continue) dss_nil)
  (dss_cons (ds_set (i := 3) sc_focus_order.nd rfl (Or.inl rfl) (de_call rfl c_order_told dfl_nil hr (by decide) rfl paX (da_cons (dv (pv 2)) da_nil)))
  (dss_one (ds_if (PW.pt (dt_or (PW.pt (dt_and (dt_cmp od_is (dv (pv 3)) de_non) (pw_and1 (dt_cmp (od_in rfl (hW_of hr)) (de_call rfl c_role_of dfl_nil hr (by decide) rfl paX (da_cons (dv (pv 2)) da_nil)) (de_gcT rfl T.g_FOCUS (rep_tup T.t_FOCUS)))))) (pw_or1 (PW.pt (dt_and (dt_cmp od_isNot (dv (pv 3)) de_non) (pw_and1 (dt_cmp od_ge (dv (pv 3)) de_int))))))) (dss_one (ds_expr (de_bm rfl is_ls PySem.F.plainAttrs_list PySem.F.slot_list_append PySem.F.type_list_append md_append (dv (pv 1)) (da_cons (de_tup (da_cons (de_if (de_tru rfl (dv (pv 3))) (dv (pv 3)) de_int) (da_cons (de_callB (cd_len rfl) (by rfl) T.b_len (by decide +kernel) (da_cons (dv (pv 1)) da_nil)) (da_cons (de_fld rfl (fd_Node_number T) (dv (pv 2))) da_nil)))) da_nil)))) dss_nil)))))
  (dss_one (ds_ret (de_tupG (k := 0) (ig := none) (own := [("order", 4), ("place", 5), ("number", 6)]) rfl (hr.mono (by decide)) (by rfl) T.b_tuple TB rfl sc_focus_order.nd (gnB_of (N := sl_focus_order) (sc := defScope s_focus_order) (by decide +kernel)) (fun _ z => by cases z) (di_lst rfl (de_callB (cd_sortX rfl (hW_of hr)) (by rfl) T.b_sorted (by decide +kernel) (da_cons (dv (pv 1)) da_nil))) (fun _ => rfl) ⟨(fun s H A' cl L code fp hr => (gw_tup (n := 3) rfl rfl (gws_cons (gw_name (i := 4) sc_focus_order.nd rfl (Or.inl rfl) (by decide)) (gws_cons (gw_name (i := 5) sc_focus_order.nd rfl (Or.inl rfl) (by decide)) (gws_cons (gw_name (i := 6) sc_focus_order.nd rfl (Or.inl rfl) (by decide)) gws_nil))))), (fun s H A' cl L code fp hr => ts_nil), (fun s H A' cl L code fp hr => (dv (pv 6)))⟩))))), fun ds S q h => ?_⟩)
  · obtain ⟨_, _, _, rfl, _⟩ := h
    rfl
  obtain ⟨dc, A, T0, rfl, hd, ok, tb1, tb2, h⟩ := h
  obtain ⟨dn, vv, hdc, _⟩ := hd.hdc
  have h0 := pre_head T0 0 []
  obtain ⟨t0, c0, g0, _⟩ := hd.at h0
  walk_at "go"
  intro pf hpf
  have le0 := Le.refl.put hpf (c := Cell.lst [])
  have hd0 := hd.le le0
  have g0 := le0 _ _ g0
  have hdc := le0 _ _ hdc
  walk_at "go"
  refine ⟨dc, A, T0, 0, T0, [], rfl, hd0, h0, fun S1 p le1 np hp => ?_⟩
  have hf1 : S1 pf = some (.lst []) := le1 _ _ sput_same
  obtain ⟨npf, np0⟩ := sput_free np
  have le01 : ∀ {S'}, (∀ b c, S1 b = some c → b ≠ pf → S' b = some c) → Le S S' := fun hk b c hb => hk b c (le1 _ _ (le0 _ _ hb)) fun e => by rw [e, hpf] at hb; cases hb
  rw [refs_pre (ab := [])] at hp
  walk_at "go"
  refine forGo_at (fun x : En => Dt.ref (ad A x.1)) (pre 0 [] T0) (fun i δ S2 => (∀ b c, S1 b = some c → b ≠ pf → S2 b = some c) ∧ S2 pf = some (.lst ((fRows ((pre 0 [] T0).take i)).map fRowD)) ∧ ∃ u2 u3 u4 u5 u6, δ = [some (.ref dc), some (.ref pf), u2, u3, u4, u5, u6]) (fun i δ S' hI => ?_) (fun i x δ S' hx hI nx2 kk => ?_) (fun δ S' hI => ?_) ⟨fun b c hb _ => hb, hf1, _, _, _, _, _, rfl⟩
  · exact hI.1 _ _ hp npf
  · obtain ⟨hk, hf, u2, u3, u4, u5, u6, rfl⟩ := hI
    have hd2 := hd.le (le01 hk)
    have hm := List.mem_of_getElem? hx
    have no : fRow x = none → ∀ u2 u3 u4 u5 u6 S3, Le S' S3 → nx2 [some (.ref dc), some (.ref pf), u2, u3, u4, u5, u6] S3 := fun hn u2 u3 u4 u5 u6 S3 le3 => by
      refine kk _ _ ⟨fun b c hb hne => le3 _ _ (hk b c hb hne), ?_, u2, u3, u4, u5, u6, rfl⟩
      rw [fRows_snoc hx, hn, List.append_nil]
      exact le3 _ _ hf
    obtain ⟨jx, v, abx⟩ := x
    cases v with
    | tx z =>
      obtain ⟨t, c, q1, _⟩ := hd2.tx hm
      walk_at "go"
      refine hd2.isT hm (fun he => ?_) (fun he => ?_)
      · walk_at "go"
        exact no rfl _ _ _ _ _ _ Le.refl
      · cases he
    | el tx fx cx =>
      have el : ElAt K S' dc A T0 jx tx fx cx abx := ⟨hd2, hm, ok⟩
      obtain ⟨t, c, vx, kx, q1, q2, _⟩ := hd2.el hm
      walk_at "go"
      refine hd2.isT hm (fun he => ?_) (fun he => ?_)
      · cases he
      · walk_at "go"
        refine ⟨dc, A, T0, jx, tx, fx, cx, abx, rfl, el, fun S2 le2 => ?_⟩
        have el2 := el.le le2
        have q1 := le2 _ _ q1
        have q2 := le2 _ _ q2
        have uh : fRow (jx, Tr.el tx fx cx, abx) = if leftOut abx (Tr.el tx fx cx) = true then none else if (aGet fx "off").isSome = true then none else if focB tx fx = true then some (focO fx, jx) else none := rfl
        cases hlo : leftOut abx (Tr.el tx fx cx) with
        | true =>
          rw [if_pos hlo] at uh
          walk_at "go"
          exact no uh _ _ _ _ _ _ le2
        | false =>
          rw [if_neg (by rw [hlo]; decide)] at uh
          walk_at "go"
          refine el2.attr ?_
          cases hoff : aGet fx "off" with
          | some z =>
            rw [hoff, if_pos (by rfl)] at uh
            walk_at "go"
            exact no uh _ _ _ _ _ _ le2
          | none =>
            rw [hoff, if_neg (by decide)] at uh
            have tb3 := le2 _ _ (le01 hk _ _ tb1)
            walk_at "go"
            refine ⟨dc, A, T0, jx, tx, fx, cx, abx, rfl, el2, tb3, ?_⟩
            have hf2 : S2 pf = _ := le2 _ _ hf
            have lf : (fRows ((pre 0 [] T0).take i)).length ≤ 900 := by
              have h1 := fRows_len ((pre 0 [] T0).take i)
              have h2 := hd.sz
              have h3 : (pre 0 [] T0).length = size T0 := pre_len
              rw [List.length_take] at h1
              omega
            have fin : focB tx fx = true → ∀ u2 u3 u4 u5 u6, nx2 [some (.ref dc), some (.ref pf), u2, u3, u4, u5, u6] (sput S2 pf (.lst ((fRows ((pre 0 [] T0).take i)).map fRowD ++ [.tup [.int (focO fx), .int (((fRows ((pre 0 [] T0).take i)).map fRowD).length : Nat), .int (jx : Nat)]]))) := fun hb u2 u3 u4 u5 u6 => by
              refine kk _ _ ⟨fun b c hb hne => by rw [sput_ne hne]; exact le2 _ _ (hk b c hb hne), ?_, u2, u3, u4, u5, u6, rfl⟩
              rw [if_pos hb] at uh
              rw [fRows_snoc hx, uh, List.map_append, sput_same, List.length_map]
              rfl
            cases ho : orderF fx with
            | none =>
              have eb : focB tx fx = focR (roleF tx fx) := by unfold focB; rw [ho]
              have eo : focO fx = 1000000 := by unfold focO; rw [ho]
              walk_at "go"
              refine ⟨dc, A, T0, jx, tx, fx, cx, abx, rfl, el2, ?_⟩
              cases hro : roleF tx fx with
              | none =>
                rw [hro] at eb
                rw [if_neg (by rw [eb]; decide)] at uh
                walk_at "go"
                refine ⟨⟨rfl, rfl, rfl⟩, ?_⟩
                refine ⟨false, rfl, ?_⟩
                walk_at "go"
                exact no uh _ _ _ _ _ _ le2
              | some r =>
                rw [hro] at eb
                have eb : focB tx fx = decide (r ∈ (["link", "button", "field", "mark"] : List Str)) := eb
                walk_at "go"
                refine in_tup ["link", "button", "field", "mark"] rfl ?_
                walk_at "go"
                refine mdec (fun h1 => ?_) (fun h1 => ?_)
                · have fin := fin (by rw [eb, decide_eq_true h1])
                  rw [eo] at fin
                  walk_at "go"
                  exact fin _ _ _ _ _
                · rw [if_neg (by rw [eb, decide_eq_false h1]; decide)] at uh
                  walk_at "go"
                  exact no uh _ _ _ _ _ _ le2
            | some k =>
              have eb : focB tx fx = decide (0 ≤ k) := by unfold focB; rw [ho]
              have eo : focO fx = if k = 0 then 1000000 else k := by unfold focO; rw [ho]
              walk_at "go"
              refine mdec (fun h1 => ?_) (fun h1 => ?_)
              · have fin := fin (by rw [eb, decide_eq_true h1])
                rw [eo] at fin
                walk_at "go"
                by_cases h2 : k = 0
                · rw [if_pos h2] at fin
                  rw [decide_eq_true h2]
                  walk_at "go"
                  exact fin _ _ _ _ _
                · rw [if_neg h2] at fin
                  rw [decide_eq_false h2]
                  walk_at "go"
                  exact fin _ _ _ _ _
              · rw [if_neg (by rw [eb, decide_eq_false h1]; decide)] at uh
                walk_at "go"
                exact no uh _ _ _ _ _ _ le2
  · obtain ⟨hk, hf, u2, u3, u4, u5, u6, rfl⟩ := hI
    rw [List.take_length] at hf
    have tb3 := le01 hk _ _ tb2
    walk_at "go"
    refine ⟨srtOk_iii, ?_⟩
    rw [srtR_eq]
    have ls : (srtR (fRows (pre 0 [] T0))).length ≤ 900 := by
      have h0 : (srtR (fRows (pre 0 [] T0))).length = (fRows (pre 0 [] T0)).length := List.length_mergeSort ..
      have h1 := fRows_len (pre 0 [] T0)
      have h2 := hd.sz
      have h3 : (pre 0 [] T0).length = size T0 := pre_len
      omega
    walk_at "go"
    intro c1 P1
    refine tup_go (by rw [List.length_map]; exact size6 (by omega)) (lc_map fRowD (fun y => Dt.int (y.2.2 : Nat)) trivial _ (fun y hy kY kN hY => ?_) ?_)
    · walk_at "go"
      exact hY
    · have h := h S' (le01 hk)
      unfold focF at h
      rw [List.map_map] at h
      walk_at "go"
      exact h
end
end K19

/-! the markup that the law draws reads as trees -/
namespace K19
open PySem PySem.Spec PyProof.Rows L2 Pr Dn Mk
def cs (s : Str) : Cs := s.cps.toList
def txA (as : List At1) : Str := mkS (as.flatMap At1.tx)
theorem txA_app (a b : List At1) : txA a ++ txA b = txA (a ++ b) := by
  unfold txA
  rw [mkS_app, List.flatMap_append]
theorem str_app_nil (x : Str) : x ++ ("" : Str) = x := by
  show (⟨x.cps ++ #[]⟩ : Str) = x
  rw [Array.append_empty]
/-- an attribute without a value, one with a plain value -/
def aN (n : Str) : At1 := ⟨cs n, none⟩
def aV (n v : Str) : At1 := ⟨cs n, some (cs v, cs v)⟩
structure ItOk (a : At1) : Prop where
  ok : a.Ok
  k : SOk a.fd.1 ∧ a.fd.1.length ≤ 40
  v : SOk a.fd.2 ∧ a.fd.2.length ≤ 40
  o : a.fd.1 = ("order" : Str) → a.fd.2 ∈ ordS
  t : a.tx.length ≤ 100
  st : SOk (mkS a.tx)
theorem itN (n : Str) (h : (decide (cs n ≠ []) && (cs n).all isTag && (decide (n.length ≤ 40) && PySem.PyData.strOk n) && decide (n ≠ "order")) = true) : ItOk (aN n) := by
  simp only [Bool.and_eq_true, decide_eq_true_eq] at h
  obtain ⟨⟨⟨h1, h2⟩, h3, h4⟩, h5⟩ := h
  have e : (aN n).fd = (n, ("" : Str)) := rfl
  have hlt : (32 :: (cs n ++ [])).length ≤ 100 := by
    rw [List.append_nil, List.length_cons]
    have : (cs n).length = n.length := Array.length_toList
    omega
  refine ⟨⟨h1, h2, nofun⟩, ?_, ?_, ?_, hlt, ⟨Nat.le_trans hlt (Nat.le_of_ble_eq_true rfl), sok_all.mpr fun c hc => ?_⟩⟩
  · rw [e]; exact ⟨⟨Nat.le_trans h3 (Nat.le_of_ble_eq_true rfl), h4⟩, h3⟩
  · rw [e]; exact ⟨SOk.empty, Nat.zero_le _⟩
  · rw [e]; exact fun k => absurd k h5
  · rcases List.mem_cons.mp (show c ∈ 32 :: (cs n ++ []) from hc) with rfl | hc
    · decide
    · rw [List.append_nil] at hc
      exact sok_all.mp h4 c hc
theorem itV (n v : Str) (h : (decide (cs n ≠ []) && (cs n).all isTag && (decide (n.length ≤ 40) && PySem.PyData.strOk n) && (decide (34 ∉ cs v) && decide (38 ∉ cs v) && (decide (v.length ≤ 40) && PySem.PyData.strOk v)) && (decide (n ≠ "order") || decide (v ∈ ordS))) = true) : ItOk (aV n v) := by
  simp only [Bool.and_eq_true, Bool.or_eq_true, decide_eq_true_eq] at h
  obtain ⟨⟨⟨⟨h1, h2⟩, h3, h4⟩, ⟨h6, h7⟩, h8, h9⟩, h5⟩ := h
  have e : (aV n v).fd = (n, v) := rfl
  have hlt : (32 :: (cs n ++ 61 :: 34 :: (cs v ++ [34]))).length ≤ 100 := by
    simp only [List.length_cons, List.length_append, List.length_nil]
    have : (cs n).length = n.length := Array.length_toList
    have : (cs v).length = v.length := Array.length_toList
    omega
  refine ⟨⟨h1, h2, fun r hr => ?_⟩, ?_, ?_, ?_, hlt, ⟨Nat.le_trans hlt (Nat.le_of_ble_eq_true rfl), sok_all.mpr fun c hc => ?_⟩⟩
  · cases hr
    exact ⟨h6, ent_plain _ h7⟩
  · rw [e]; exact ⟨⟨Nat.le_trans h3 (Nat.le_of_ble_eq_true rfl), h4⟩, h3⟩
  · rw [e]; exact ⟨⟨Nat.le_trans h8 (Nat.le_of_ble_eq_true rfl), h9⟩, h8⟩
  · rw [e]; exact fun k => h5.resolve_left fun h => h k
  · have hc : c ∈ 32 :: (cs n ++ 61 :: 34 :: (cs v ++ [34])) := hc
    simp only [List.mem_cons, List.mem_append, List.not_mem_nil, or_false] at hc
    rcases hc with rfl | hc | rfl | rfl | hc | rfl
    · decide
    · exact sok_all.mp h4 c hc
    · decide
    · decide
    · exact sok_all.mp h9 c hc
    · decide
def eN (k : Nat) : Str := ("e" : Str) ++ Str.ofString (toString k)
def tagsL : List Str := ["a", "button", "input", "img", "h1", "h2", "ul", "li", "p", "div", "label", "section"]
def names1 : List Str := ["hidden", "role", "label", "title", "alt", "order", "off", "labelledby"]
def names2 : List Str := ["href", "type", "for"]
theorem eN_ok : ∀ k, k ≤ 200 → (decide (34 ∉ cs (eN k)) && decide (38 ∉ cs (eN k)) && (decide ((eN k).length ≤ 40) && PySem.PyData.strOk (eN k))) = true := by
  have h : (List.range 201).all (fun k => decide (34 ∉ cs (eN k)) && decide (38 ∉ cs (eN k)) && (decide ((eN k).length ≤ 40) && PySem.PyData.strOk (eN k))) = true := by decide +kernel
  exact fun k hk => List.all_eq_true.mp h k (List.mem_range.mpr (by omega))
theorem itE (n : Str) (k : Nat) (hk : k ≤ 200) (h : (decide (cs n ≠ []) && (cs n).all isTag && (decide (n.length ≤ 40) && PySem.PyData.strOk n) && decide (n ≠ "order")) = true) : ItOk (aV n (eN k)) := by
  refine itV _ _ ?_
  have h2 := eN_ok k hk
  simp only [Bool.and_eq_true, Bool.or_eq_true, decide_eq_true_eq] at h h2 ⊢
  exact ⟨⟨h.1, h2⟩, .inl h.2⟩
/-- the attributes of an element that is drawn -/
structure AsOk (as : List At1) : Prop where
  it : ∀ a ∈ as, ItOk a
  nd : (as.map fun a => mkS a.nm).Nodup
  l : as.length ≤ 3
theorem AsOk.fd {as : List At1} (h : AsOk as) : AtOk (as.map At1.fd) := by
  refine ⟨fun p hp => ?_, ?_, fun z hz => ?_, by rw [List.length_map]; have := h.l; omega⟩
  · obtain ⟨a, ha, rfl⟩ := List.mem_map.mp hp
    have := h.it a ha
    exact ⟨this.k.1, this.v.1, this.k.2, this.v.2⟩
  · rw [List.map_map]
    exact h.nd
  · obtain ⟨a, ha, e⟩ := List.mem_map.mp (aGet_mem hz)
    have := (h.it a ha).o (by rw [e])
    rw [e] at this
    exact this
theorem AsOk.len {as : List At1} (h : AsOk as) : (txA as).length ≤ 300 := by
  unfold txA
  rw [mkS_len]
  have l := h.l
  have : (as.flatMap At1.tx).length ≤ as.length * 100 := by
    have it := h.it
    clear h l
    induction as with
    | nil => exact Nat.zero_le _
    | cons a as ih =>
      have ih := ih fun b hb => it b (List.mem_cons_of_mem _ hb)
      have t := (it a List.mem_cons_self).t
      rw [List.flatMap_cons, List.length_append, List.length_cons, Nat.add_mul]
      omega
  omega
theorem AsOk.so {as : List At1} (h : AsOk as) : SOk (txA as) := by
  have l := h.len
  refine ⟨Nat.le_trans l (Nat.le_of_ble_eq_true rfl), sok_all.mpr fun c hc => ?_⟩
  obtain ⟨a, ha, hc⟩ := List.mem_flatMap.mp (show c ∈ as.flatMap At1.tx from hc)
  exact sok_all.mp (h.it a ha).st.ok c hc
def M1ok (m : List At1) : Prop := m.length ≤ 1 ∧ ∀ a ∈ m, ItOk a ∧ mkS a.nm ∈ names1
theorem m1nil : M1ok [] := ⟨Nat.zero_le _, nofun⟩
theorem m1one {a : At1} (h : ItOk a) (h2 : mkS a.nm ∈ names1) : M1ok [a] := ⟨Nat.le_refl _, fun b hb => by rw [List.mem_singleton.mp hb]; exact ⟨h, h2⟩⟩
theorem more1 {r : Int} {o : Str} (ho : o ∈ ordS) (r0 : 0 ≤ r) (r1 : r < 11) : ∃ m, atI [Dt.str "", .str "", .str " hidden", .str " role=\"button\"", .str " role=\"none\"", .str " label=\"called\"", .str " title=\"t\"", .str " alt=\"a  b\"", .str ((" order=\"" : Str) ++ o ++ "\""), .str " off", .str " labelledby=\"e1\""] r = some (.str (txA m)) ∧ M1ok m := by
  have ho2 : ItOk (aV "order" o) ∧ (" order=\"" : Str) ++ o ++ "\"" = txA [aV "order" o] := by
    simp only [ordS, List.mem_cons, List.not_mem_nil, or_false] at ho
    rcases ho with rfl | rfl | rfl | rfl | rfl | rfl <;> exact ⟨itV _ _ (by decide +kernel), by decide +kernel⟩
  rw [ho2.2]
  rcases (by omega : r = 0 ∨ r = 1 ∨ r = 2 ∨ r = 3 ∨ r = 4 ∨ r = 5 ∨ r = 6 ∨ r = 7 ∨ r = 8 ∨ r = 9 ∨ r = 10) with rfl | rfl | rfl | rfl | rfl | rfl | rfl | rfl | rfl | rfl | rfl
  · exact ⟨[], rfl, m1nil⟩
  · exact ⟨[], rfl, m1nil⟩
  · exact ⟨[aN "hidden"], rfl, m1one (itN _ (by decide +kernel)) (by decide +kernel)⟩
  · exact ⟨[aV "role" "button"], rfl, m1one (itV _ _ (by decide +kernel)) (by decide +kernel)⟩
  · exact ⟨[aV "role" "none"], rfl, m1one (itV _ _ (by decide +kernel)) (by decide +kernel)⟩
  · exact ⟨[aV "label" "called"], rfl, m1one (itV _ _ (by decide +kernel)) (by decide +kernel)⟩
  · exact ⟨[aV "title" "t"], rfl, m1one (itV _ _ (by decide +kernel)) (by decide +kernel)⟩
  · exact ⟨[aV "alt" "a  b"], rfl, m1one (itV _ _ (by decide +kernel)) (by decide +kernel)⟩
  · exact ⟨[aV "order" o], rfl, m1one ho2.1 (show ("order" : Str) ∈ names1 by decide +kernel)⟩
  · exact ⟨[aN "off"], rfl, m1one (itN _ (by decide +kernel)) (by decide +kernel)⟩
  · exact ⟨[aV "labelledby" "e1"], rfl, m1one (itV _ _ (by decide +kernel)) (by decide +kernel)⟩
def M2ok (m : List At1) : Prop := m.length ≤ 1 ∧ ∀ a ∈ m, ItOk a ∧ mkS a.nm ∈ names2
theorem m2nil : M2ok [] := ⟨Nat.zero_le _, nofun⟩
theorem m2one {a : At1} (h : ItOk a) (h2 : mkS a.nm ∈ names2) : M2ok [a] := ⟨Nat.le_refl _, fun b hb => by rw [List.mem_singleton.mp hb]; exact ⟨h, h2⟩⟩
theorem moreA {r : Int} (r0 : 0 ≤ r) (r1 : r < 2) : ∃ m, atI [Dt.str " href=\"x\"", .str ""] r = some (.str (txA m)) ∧ M2ok m := by
  rcases (by omega : r = 0 ∨ r = 1) with rfl | rfl
  · exact ⟨[aV "href" "x"], rfl, m2one (itV _ _ (by decide +kernel)) (by decide +kernel)⟩
  · exact ⟨[], rfl, m2nil⟩
theorem moreT {r : Int} (r0 : 0 ≤ r) (r1 : r < 5) : ∃ m, atI [Dt.str " type=\"checkbox\"", .str " type=\"hidden\"", .str " type=\"submit\"", .str "", .str " type=\"text\""] r = some (.str (txA m)) ∧ M2ok m := by
  rcases (by omega : r = 0 ∨ r = 1 ∨ r = 2 ∨ r = 3 ∨ r = 4) with rfl | rfl | rfl | rfl | rfl
  · exact ⟨[aV "type" "checkbox"], rfl, m2one (itV _ _ (by decide +kernel)) (by decide +kernel)⟩
  · exact ⟨[aV "type" "hidden"], rfl, m2one (itV _ _ (by decide +kernel)) (by decide +kernel)⟩
  · exact ⟨[aV "type" "submit"], rfl, m2one (itV _ _ (by decide +kernel)) (by decide +kernel)⟩
  · exact ⟨[], rfl, m2nil⟩
  · exact ⟨[aV "type" "text"], rfl, m2one (itV _ _ (by decide +kernel)) (by decide +kernel)⟩
theorem moreF {k : Nat} (hk : k ≤ 200) : (" for=\"e" : Str) ++ Str.ofString (toString k) ++ "\"" = txA [aV "for" (eN k)] ∧ M2ok [aV "for" (eN k)] := by
  have h : ∀ j, j < 201 → (" for=\"e" : Str) ++ Str.ofString (toString j) ++ "\"" = txA [aV "for" (eN j)] := by
    have h : (List.range 201).all (fun j => decide ((" for=\"e" : Str) ++ Str.ofString (toString j) ++ "\"" = txA [aV "for" (eN j)])) = true := by decide +kernel
    exact fun j hj => of_decide_eq_true (List.all_eq_true.mp h j (List.mem_range.mpr hj))
  exact ⟨h k (by omega), m2one (itE _ _ hk (by decide +kernel)) (show ("for" : Str) ∈ names2 by decide +kernel)⟩
theorem markI {k : Nat} (hk : k ≤ 200) : (" id=\"e" : Str) ++ Str.ofString (toString k) ++ "\"" = txA [aV "id" (eN k)] ∧ ItOk (aV "id" (eN k)) := by
  have h : ∀ j, j < 201 → (" id=\"e" : Str) ++ Str.ofString (toString j) ++ "\"" = txA [aV "id" (eN j)] := by
    have h : (List.range 201).all (fun j => decide ((" id=\"e" : Str) ++ Str.ofString (toString j) ++ "\"" = txA [aV "id" (eN j)])) = true := by decide +kernel
    exact fun j hj => of_decide_eq_true (List.all_eq_true.mp h j (List.mem_range.mpr hj))
  exact ⟨h k (by omega), itE _ _ hk (by decide +kernel)⟩
/-- the three parts -/
def M0ok (m : List At1) : Prop := m.length ≤ 1 ∧ ∀ a ∈ m, ItOk a ∧ mkS a.nm = "id"
theorem le1 {α : Type} {l : List α} (h : l.length ≤ 1) : l = [] ∨ ∃ a, l = [a] := by
  cases l with
  | nil => exact .inl rfl
  | cons a r => cases r with
    | nil => exact .inr ⟨a, rfl⟩
    | cons b r => simp at h
theorem three {m0 m1 m2 : List At1} (h0 : M0ok m0) (h1 : M1ok m1) (h2 : M2ok m2) : AsOk (m0 ++ (m1 ++ m2)) := by
  have dj : ∀ x ∈ names1, ∀ y ∈ names2, x ≠ y := by decide +kernel
  have d1 : ∀ x ∈ names1, x ≠ ("id" : Str) := by decide +kernel
  have d2 : ∀ x ∈ names2, x ≠ ("id" : Str) := by decide +kernel
  have nd : ∀ {m : List At1}, m.length ≤ 1 → (m.map fun a => mkS a.nm).Nodup := fun h => by
    rcases le1 h with rfl | ⟨a, rfl⟩ <;> simp
  refine ⟨fun a ha => ?_, ?_, ?_⟩
  · rcases List.mem_append.mp ha with ha | ha
    · exact (h0.2 a ha).1
    · rcases List.mem_append.mp ha with ha | ha
      · exact (h1.2 a ha).1
      · exact (h2.2 a ha).1
  · rw [List.map_append, List.map_append]
    refine List.nodup_append.mpr ⟨nd h0.1, List.nodup_append.mpr ⟨nd h1.1, nd h2.1, fun x hx y hy => ?_⟩, fun x hx y hy => ?_⟩
    · obtain ⟨a, ha, rfl⟩ := List.mem_map.mp hx
      obtain ⟨b, hb, rfl⟩ := List.mem_map.mp hy
      exact dj _ (h1.2 a ha).2 _ (h2.2 b hb).2
    · obtain ⟨a, ha, rfl⟩ := List.mem_map.mp hx
      rw [(h0.2 a ha).2]
      rcases List.mem_append.mp hy with hy | hy
      · obtain ⟨b, hb, rfl⟩ := List.mem_map.mp hy
        exact (d1 _ (h1.2 b hb).2).symm
      · obtain ⟨b, hb, rfl⟩ := List.mem_map.mp hy
        exact (d2 _ (h2.2 b hb).2).symm
  · rw [List.length_append, List.length_append]
    have := h0.1
    have := h1.1
    have := h2.1
    omega
theorem rep01 (z : Str) (b : Bool) : repS z (if b = true then (1 : Int) else 0).toNat = if b = true then z else "" := by
  cases b with
  | false => rfl
  | true =>
    show (⟨((List.replicate 1 z.cps.toList).flatten).toArray⟩ : Str) = z
    simp
end K19

namespace K19
open PySem PySem.Spec PyProof.Rows L2 Pr Dn Mk
theorem cs_app (a b : Str) : cs (a ++ b) = cs a ++ cs b := by
  show (a.cps ++ b.cps).toList = _
  rw [Array.toList_append]
  rfl
theorem app_as (a b c : Str) : a ++ b ++ c = a ++ (b ++ c) := by
  show (⟨a.cps ++ b.cps ++ c.cps⟩ : Str) = ⟨a.cps ++ (b.cps ++ c.cps)⟩
  rw [Array.append_assoc]
mutual
def GdT : Tr → Prop
  | .tx z => SOk z ∧ z.length ≤ 40
  | .el tag fd c => AtOk fd ∧ tag ∉ badTags ∧ GdL c
def GdL : List Tr → Prop
  | [] => True
  | t :: r => GdT t ∧ GdL r
end
theorem GdL.app : ∀ {a b : List Tr}, GdL a → GdL b → GdL (a ++ b)
  | [], b, _, h => h
  | t :: r, b, h, h2 => ⟨h.1, GdL.app h.2 h2⟩
mutual
theorem GdT.sub : ∀ {T : Tr} {i : Nat} {ab : Ab} {j : Nat} {u : Tr} {ab' : Ab}, GdT T → (j, u, ab') ∈ pre i ab T → GdT u
  | .tx z, i, ab, j, u, ab', g, h => by
    cases List.mem_singleton.mp h
    exact g
  | .el tag fd c, i, ab, j, u, ab', g, h => by
    rcases List.mem_cons.mp h with e | h
    · cases e
      exact g
    · exact GdL.sub g.2.2 h
theorem GdL.sub : ∀ {ts : List Tr} {i : Nat} {ab : Ab} {j : Nat} {u : Tr} {ab' : Ab}, GdL ts → (j, u, ab') ∈ preL i ab ts → GdT u
  | t :: r, i, ab, j, u, ab', g, h => by
    rcases List.mem_append.mp h with h | h
    · exact GdT.sub g.1 h
    · exact GdL.sub g.2 h
end
mutual
theorem GdT.tx : ∀ {T : Tr}, GdT T → ∀ z ∈ texts T, SOk z ∧ z.length ≤ 40
  | .tx z, g, x, hx => by
    rw [List.mem_singleton.mp hx]
    exact g
  | .el tag fd c, g, x, hx => GdL.tx g.2.2 x hx
theorem GdL.tx : ∀ {ts : List Tr}, GdL ts → ∀ z ∈ textsL ts, SOk z ∧ z.length ≤ 40
  | t :: r, g, x, hx => (List.mem_append.mp hx).elim (fun h => GdT.tx g.1 x h) fun h => GdL.tx g.2 x h
end
theorem GdT.ok {T : Tr} (g : GdT T) : TrOk T := ⟨g.tx, fun j tag fd c ab h => by
  have : GdT (.el tag fd c) := g.sub h
  exact ⟨this.1, this.2.1⟩⟩
theorem depthL_app : ∀ (a b : List Tr), depthL (a ++ b) = max (depthL a) (depthL b)
  | [], b => (Nat.zero_max _).symm
  | t :: r, b => by
    show max (depth t) (depthL (r ++ b)) = max (max (depth t) (depthL r)) (depthL b)
    rw [depthL_app r b, Nat.max_assoc]
def wordsL : List Str := ["word", "", " two  words "]
def voidL : List Str := ["input", "img"]
def elemS (tag : Str) (as : List At1) (inner : Str) : Str := ("<" : Str) ++ tag ++ txA as ++ ">" ++ (if tag ∈ voidL then ("" : Str) else inner ++ "</" ++ tag ++ ">")
def wordT (w : Str) : List Tr := if w = "" then [] else [.tx w]
theorem tag_facts : ∀ tag ∈ tagsL, cs tag ≠ [] ∧ (cs tag).all isTag = true ∧ tag ≠ "html" ∧ tag ∉ rawL ∧ (tag ∈ voidL ↔ tag ∈ voids) ∧ tag.length ≤ 10 ∧ tag ∉ badTags ∧ SOk tag := by
  have h : tagsL.all (fun tag => decide (cs tag ≠ []) && (cs tag).all isTag && decide (tag ≠ "html") && decide (tag ∉ rawL) && decide (tag ∈ voidL ↔ tag ∈ voids) && decide (tag.length ≤ 10) && decide (tag ∉ badTags) && (decide (tag.length ≤ 16777216) && PySem.PyData.strOk tag)) = true := by decide +kernel
  intro tag ht
  have h := List.all_eq_true.mp h tag ht
  rw [Bool.and_eq_true] at h
  have s := sok_of h.2
  have h := h.1
  simp only [Bool.and_eq_true, decide_eq_true_eq] at h
  obtain ⟨⟨⟨⟨⟨⟨h1, h2⟩, h3⟩, h4⟩, h5⟩, h6⟩, h7⟩ := h
  exact ⟨h1, h2, h3, h4, h5, h6, h7, s⟩
theorem word_facts : ∀ w ∈ wordsL, w ≠ "" → cs w ≠ [] ∧ 60 ∉ cs w ∧ 38 ∉ cs w ∧ Txt.stripChars w " \n" ≠ "" := by
  have h : wordsL.all (fun w => decide (w = "") || (decide (cs w ≠ []) && decide (60 ∉ cs w) && decide (38 ∉ cs w) && decide (Txt.stripChars w " \n" ≠ ""))) = true := by decide +kernel
  intro w hw h0
  have h := List.all_eq_true.mp h w hw
  rw [decide_eq_false h0, Bool.false_or] at h
  simp only [Bool.and_eq_true, decide_eq_true_eq] at h
  exact ⟨h.1.1.1, h.1.1.2, h.1.2, h.2⟩
theorem word_ok : ∀ w ∈ wordsL, SOk w ∧ w.length ≤ 20 := by
  have h : wordsL.all (fun w => (decide (w.length ≤ 16777216) && PySem.PyData.strOk w) && decide (w.length ≤ 20)) = true := by decide +kernel
  intro w hw
  have h := List.all_eq_true.mp h w hw
  rw [Bool.and_eq_true] at h
  exact ⟨sok_of h.1, of_decide_eq_true h.2⟩
theorem word_draws {d : Nat} {w xr : Str} {rs : List Tr} (hw : w ∈ wordsL) (hx : Draws d (cs xr) rs) (h0 : cs xr = [] ∨ (cs xr).head? = some 60) : Draws d (cs (w ++ xr)) (wordT w ++ rs) := by
  rw [cs_app]
  by_cases e : w = ""
  · subst e
    exact hx
  · obtain ⟨h1, h2, h3, h4⟩ := word_facts w hw e
    unfold wordT
    rw [if_neg e]
    exact (Draws.text h1 h2 (ent_plain _ h3) h4).app hx h0
theorem elem_draws {d : Nat} {tag w xr : Str} {as : List At1} {rs : List Tr} (ht : tag ∈ tagsL) (ha : AsOk as) (hw : w ∈ wordsL) (hx : Draws d (cs xr) rs) (h0 : cs xr = [] ∨ (cs xr).head? = some 60) (hv : tag ∈ voidL → w = "" ∧ rs = []) (hp : tag = "p" ∨ tag = "li" → xr = "" ∧ rs = []) :
    Draws (d + 1) (cs (elemS tag as (w ++ xr))) [.el tag (as.map At1.fd) (wordT w ++ rs)] := by
  obtain ⟨f1, f2, f3, f4, f5, _⟩ := tag_facts tag ht
  have hA : ∀ a ∈ as, a.Ok := fun a h => (ha.it a h).ok
  by_cases v : tag ∈ voidL
  · obtain ⟨rfl, rfl⟩ := hv v
    have e : cs (elemS tag as ("" ++ xr)) = 60 :: (tag.cps.toList ++ (as.flatMap At1.tx ++ [62])) := by
      unfold elemS
      rw [if_pos v, str_app_nil, cs_app, cs_app, cs_app]
      show [60] ++ cs tag ++ as.flatMap At1.tx ++ [62] = _
      simp only [List.append_assoc, List.cons_append, List.nil_append]
      rfl
    rw [e]
    exact Draws.vd f1 f2 hA ha.nd ⟨f3, f4, f5.mp v⟩
  · have e : cs (elemS tag as (w ++ xr)) = 60 :: (tag.cps.toList ++ (as.flatMap At1.tx ++ 62 :: (cs (w ++ xr) ++ 60 :: 47 :: (tag.cps.toList ++ [62])))) := by
      unfold elemS
      rw [if_neg v, cs_app, cs_app, cs_app, cs_app, cs_app, cs_app, cs_app]
      show [60] ++ cs tag ++ as.flatMap At1.tx ++ [62] ++ (cs (w ++ xr) ++ [60, 47] ++ cs tag ++ [62]) = _
      simp only [List.append_assoc, List.cons_append, List.nil_append]
      rfl
    rw [e]
    refine Draws.el f1 f2 hA ha.nd ⟨f3, f4, fun k => v (f5.mpr k)⟩ (word_draws hw hx h0) ?_
    by_cases hp' : tag = "p" ∨ tag = "li"
    · obtain ⟨rfl, rfl⟩ := hp hp'
      rw [str_app_nil, List.append_nil]
      by_cases e : w = ""
      · subst e
        exact .inr (.inl ⟨rfl, rfl⟩)
      · obtain ⟨h1, h2, h3, h4⟩ := word_facts w hw e
        refine .inr (.inr ⟨w, h1, h2, ent_plain _ h3, h4, ?_⟩)
        unfold wordT
        rw [if_neg e]
    · exact .inl ⟨fun k => hp' (.inl k), fun k => hp' (.inr k)⟩
theorem elem_head {tag : Str} {as : List At1} {inner : Str} : (cs (elemS tag as inner)).head? = some 60 := by
  unfold elemS
  rw [cs_app, cs_app, cs_app, cs_app]
  rfl
theorem elem_gd {tag w : Str} {as : List At1} {rs : List Tr} (ht : tag ∈ tagsL) (ha : AsOk as) (hw : w ∈ wordsL) (hg : GdL rs) : GdL [.el tag (as.map At1.fd) (wordT w ++ rs)] := by
  obtain ⟨_, _, _, _, _, _, f7, _⟩ := tag_facts tag ht
  refine ⟨⟨ha.fd, f7, GdL.app ?_ hg⟩, trivial⟩
  unfold wordT
  split
  · trivial
  · exact ⟨⟨(word_ok w hw).1, by have := (word_ok w hw).2; omega⟩, trivial⟩
theorem elem_size {tag w : Str} {as : List At1} {rs : List Tr} : sizeL [.el tag (as.map At1.fd) (wordT w ++ rs)] ≤ 2 + sizeL rs ∧ depthL [.el tag (as.map At1.fd) (wordT w ++ rs)] ≤ 1 + depthL rs := by
  have e1 : sizeL (wordT w) ≤ 1 ∧ depthL (wordT w) = 0 := by
    unfold wordT
    split
    · exact ⟨Nat.zero_le _, rfl⟩
    · exact ⟨Nat.le_refl _, rfl⟩
  constructor
  · show 1 + sizeL (wordT w ++ rs) + 0 ≤ _
    rw [sizeL_app]
    omega
  · show max (1 + depthL (wordT w ++ rs)) 0 ≤ _
    rw [depthL_app, e1.2, Nat.zero_max, Nat.max_zero]
    exact Nat.le_refl _
theorem elem_len {tag w xr : Str} {as : List At1} (ht : tag ∈ tagsL) (ha : AsOk as) (hw : w ∈ wordsL) : (elemS tag as (w ++ xr)).length ≤ 360 + xr.length ∧ (SOk xr → SOk (txA as) → xr.length ≤ 1000000 → SOk (elemS tag as (w ++ xr))) := by
  obtain ⟨_, _, _, _, _, f6, _, f9⟩ := tag_facts tag ht
  have l1 := ha.len
  have l2 := word_ok w hw
  have s1 : SOk ("<" : Str) := sok_of (by decide +kernel)
  have s2 : SOk (">" : Str) := sok_of (by decide +kernel)
  have s3 : SOk ("</" : Str) := sok_of (by decide +kernel)
  unfold elemS
  have e1 : ("<" : Str).length = 1 := rfl
  have e2 : (">" : Str).length = 1 := rfl
  have e3 : ("</" : Str).length = 2 := rfl
  have e4 : ("" : Str).length = 0 := rfl
  have bs : (16777216 : Nat) ≤ sizeLine := Nat.le_of_ble_eq_true rfl
  constructor
  · split
    · rw [app_len, app_len, app_len, app_len]
      omega
    · rw [app_len, app_len, app_len, app_len, app_len, app_len, app_len, app_len]
      omega
  · intro sx sa lx
    have b1 : SOk (("<" : Str) ++ tag) := s1.app f9 (by omega)
    have b2 : SOk (("<" : Str) ++ tag ++ txA as) := b1.app sa (by rw [app_len]; omega)
    have b3 : SOk (("<" : Str) ++ tag ++ txA as ++ ">") := b2.app s2 (by rw [app_len, app_len]; omega)
    split
    · rw [str_app_nil]
      exact b3
    · have c1 : SOk (w ++ xr) := l2.1.app sx (by omega)
      have c2 : SOk (w ++ xr ++ "</") := c1.app s3 (by rw [app_len]; omega)
      have c3 : SOk (w ++ xr ++ "</" ++ tag) := c2.app f9 (by rw [app_len, app_len]; omega)
      have c4 : SOk (w ++ xr ++ "</" ++ tag ++ ">") := c3.app s2 (by rw [app_len, app_len, app_len]; omega)
      exact b3.app c4 (by simp only [app_len]; omega)
end K19
namespace K19
open PySem PySem.Spec PyProof.Rows L2 Pr Dn Mk
theorem _root_.Mk.Draws.mono {d e : Nat} {x : Cs} {ts : List Tr} (h : Draws d x ts) (he : d ≤ e) : Draws e x ts := fun z p m y a b c ok => h z p m y a b c (ok.mono he)
def Nn : Nat → Nat
  | 0 => 3
  | n + 1 => 3 + 3 * Nn n
def Mn : Nat → Nat
  | 0 => 0
  | n + 1 => Nn n
theorem Nn_eq (n : Nat) : Nn n = 3 + 3 * Mn n := by cases n <;> rfl
/-- i elements drawn, each with b others below it -/
structure MkP (deep i b : Nat) (x : Str) (ts : List Tr) : Prop where
  dr : Draws (deep + 1) (cs x) ts
  hd : cs x = [] ∨ (cs x).head? = some 60
  gd : GdL ts
  sz : sizeL ts ≤ i * (2 + 2 * b)
  dp : depthL ts ≤ deep + 1
  ln : x.length ≤ i * (360 + 360 * b)
  so : SOk x
theorem MkP.nil {deep b : Nat} : MkP deep 0 b "" [] := ⟨Draws.nil, .inl rfl, trivial, Nat.zero_le _, Nat.zero_le _, Nat.zero_le _, SOk.empty⟩
theorem MkP.add {deep i b : Nat} {x : Str} {ts : List Tr} (h : MkP deep i b x ts) {tag w xr : Str} {as : List At1} {rs : List Tr} (ht : tag ∈ tagsL) (ha : AsOk as) (hw : w ∈ wordsL) (hx : Draws deep (cs xr) rs) (h0 : cs xr = [] ∨ (cs xr).head? = some 60) (hv : tag ∈ voidL → w = "" ∧ rs = []) (hp : tag = "p" ∨ tag = "li" → xr = "" ∧ rs = [])
    (hg : GdL rs) (hs : sizeL rs ≤ 2 * b) (hd : depthL rs ≤ deep) (hl : xr.length ≤ 360 * b) (so : SOk xr) (sa : SOk (txA as)) (hb : b ≤ 200) (hi : i ≤ 10) : MkP deep (i + 1) b (x ++ elemS tag as (w ++ xr)) (ts ++ [.el tag (as.map At1.fd) (wordT w ++ rs)]) := by
  have e1 := elem_draws ht ha hw hx h0 hv hp
  have e2 := elem_size (tag := tag) (w := w) (as := as) (rs := rs)
  have e3 := elem_len (xr := xr) ht ha hw
  have e4 := elem_gd ht ha hw hg
  have l1 := h.ln
  have l2 := h.sz
  have l3 := h.dp
  have bd : (i + 1) * (360 + 360 * b) ≤ 16777216 := Nat.le_trans (Nat.mul_le_mul (show i + 1 ≤ 11 by omega) (show 360 + 360 * b ≤ 72360 by omega)) (by decide)
  have x1 : (i + 1) * (360 + 360 * b) = i * (360 + 360 * b) + (360 + 360 * b) := Nat.succ_mul _ _
  have x2 : (i + 1) * (2 + 2 * b) = i * (2 + 2 * b) + (2 + 2 * b) := Nat.succ_mul _ _
  refine ⟨?_, ?_, GdL.app h.gd e4, by rw [sizeL_app]; omega, by rw [depthL_app]; omega, by rw [app_len]; omega, h.so.app (e3.2 so sa (by omega)) (by have : (16777216 : Nat) ≤ sizeLine := Nat.le_of_ble_eq_true rfl; omega)⟩
  · rw [cs_app]
    exact h.dr.app e1 (.inr elem_head)
  · rw [cs_app]
    rcases h.hd with h1 | h1
    · rw [h1]
      exact .inr elem_head
    · obtain ⟨r, e⟩ := head_take h1
      rw [e]
      exact .inr rfl
end K19
namespace K19
open PySem PySem.Spec PyProof.Rows L2 Pr Dn Mk
theorem mul01 {z : Str} (b : Bool) (h : z.length ≤ 300) : (0 : Int) ≤ (if b = true then (1 : Int) else 0) ∧ (if b = true then (1 : Int) else 0) < 2 ^ 24 ∧ z.length * (if b = true then (1 : Int) else 0).toNat ≤ sizeLine := by
  have bs : (16777216 : Nat) ≤ sizeLine := Nat.le_of_ble_eq_true rfl
  cases b with
  | true => exact ⟨by decide, by decide, by show z.length * 1 ≤ _; omega⟩
  | false => exact ⟨by decide, by decide, by show z.length * 0 ≤ _; omega⟩
theorem if_m2 {p : Prop} [Decidable p] {m : List At1} (h : M2ok m) : ∃ m', M2ok m' ∧ (if decide p = true then txA m else "") = txA m' ∧ (¬ p → m' = []) := by
  by_cases k : p
  · exact ⟨m, h, by rw [if_pos (decide_eq_true k)], fun n => absurd k n⟩
  · exact ⟨[], m2nil, by rw [if_neg (by rw [decide_eq_false k]; decide)]; rfl, fun _ => rfl⟩
end K19

open PySem PySem.Spec PyProof.Rows L2 Pr Dn LamX

namespace K19
open Mk
/-- the dice and the count of names; all else stands -/
structure DiS (S0 S : Store) (d nm : Addr) (k : Nat) : Prop where
  hd : ∃ x n j : Int, S d = some (.lst [.int x, .int n, .int j])
  hn : S nm = some (.lst [.int (k : Nat)])
  ne : d ≠ nm
  fr : ∀ b c, S0 b = some c → b ≠ d → b ≠ nm → S b = some c
theorem DiS.roll {S0 S : Store} {d nm : Addr} {k : Nat} {m : Int} {q : DK} {e : DX} (h : DiS S0 S d nm k) (hm : 0 < m ∧ m ≤ 100000000) (kk : ∀ r S', 0 ≤ r → r < m → DiS S0 S' d nm k → q (.int r) S') : Dn.cRoll [.ref d, .int m] S q e := by
  obtain ⟨x, n, j, hd⟩ := h.hd
  refine ⟨d, x, n, j, m, rfl, hd, hm, fun r x' n' k' r0 r1 => kk r _ r0 r1 ⟨⟨_, _, _, sput_same⟩, by rw [sput_ne h.ne.symm]; exact h.hn, h.ne, fun b c hb h1 h2 => by rw [sput_ne h1]; exact h.fr b c hb h1 h2⟩⟩
theorem DiS.name {S0 S : Store} {d nm : Addr} {k : Nat} (h : DiS S0 S d nm k) (j : Nat) : DiS S0 (sput S nm (.lst [.int (j : Nat)])) d nm j := by
  obtain ⟨x, n, i, hd⟩ := h.hd
  exact ⟨⟨x, n, i, by rw [sput_ne h.ne]; exact hd⟩, sput_same, h.ne, fun b c hb h1 h2 => by rw [sput_ne h2]; exact h.fr b c hb h1 h2⟩
theorem DiS.self {S0 S : Store} {d nm : Addr} {k : Nat} (h : DiS S0 S d nm k) : DiS S S d nm k := ⟨h.hd, h.hn, h.ne, fun b c hb _ _ => hb⟩
theorem DiS.trans {S0 S S' : Store} {d nm : Addr} {k k' : Nat} (h : DiS S0 S d nm k) (g : DiS S S' d nm k') : DiS S0 S' d nm k' := ⟨g.hd, g.hn, g.ne, fun b c hb h1 h2 => g.fr b c (h.fr b c hb h1 h2) h1 h2⟩
def cMk (n : Nat) : DSp := fun ds S q _ => ∃ (d nm : Addr) (deep k : Nat), ds = [.ref d, .int (deep : Nat), .ref nm] ∧ deep < n ∧ DiS S S d nm k ∧ k + Nn deep ≤ 200 ∧ ∀ S' x ts k', DiS S S' d nm k' → k' ≤ k + Nn deep → MkP deep 3 (Mn deep) x ts → q (.str x) S'
section
variable {P : Program} {w : World} {K : PySem.W.Frag} {mg : Str → Option Value} {base : Heap}
theorem no_mk {f : Addr} {fd : FuncData} (F : FunD K "_law_markup" "_law_markup" (defArgs s_law_markup) (defBody s_law_markup) (defScope s_law_markup) [] [] f fd) : FnOk P w K mg base (L2.CX P w) 2 f fd ["dice", "deep", "names"] (spD K (cMk 0)) := fn_no F sc_law_markup fun ds S q e h => by
  obtain ⟨_, _, _, _, _, h, _⟩ := h
  cases h
end
abbrev mcx (P : Program) (w : World) (K : PySem.W.Frag) (mg : Str → Option Value) (base : Heap) (f : Addr) (cdv : Value) (A : Around) (outer : List Env) (s : Shared) (HE : Hp) (E : XK) : Cx := cxOf (L2.CX P w) P w K mg base sl_law_markup "_law_markup" (defScope s_law_markup) f cdv A outer s HE E
def bd_mk : List Stmt := stFor (nth (defBody s_law_markup) 1)
def bd_k1 : List Stmt := bd_mk.drop 1
def bd_k3 : List Stmt := bd_mk.drop 3
def bd_k6 : List Stmt := bd_mk.drop 6
theorem found_eq (x tag : Str) (a1 a2 : List At1) (t : Str) : x ++ "<" ++ tag ++ txA a1 ++ txA a2 ++ ">" ++ t = x ++ (("<" : Str) ++ tag ++ txA (a1 ++ a2) ++ ">" ++ t) := by
  rw [← txA_app]
  simp only [app_as]
local macro_rules | `(tactic| walk_at "len") => `(tactic| (simp only [app_len, show ("<" : Str).length = 1 from rfl, show (">" : Str).length = 1 from rfl, show ("</" : Str).length = 2 from rfl, show ("" : Str).length = 0 from rfl, show (" order=\"" : Str).length = 8 from rfl, show ("\"" : Str).length = 1 from rfl, show (" for=\"e" : Str).length = 7 from rfl, show (" id=\"e" : Str).length = 6 from rfl]; omega))
set_option hygiene false in
local macro_rules | `(tactic| walk_at "k6") => `(tactic| (
  walk_at "go"
  refine nin_lst ["input", "img"] rfl ?_
  rw [decide_eq_false hv]
  walk_at "go"
  exact fin _ k wd "" [] (by assumption) (by omega) hw Draws.nil (.inl rfl) (fun _ => ⟨rfl, rfl⟩) trivial (Nat.zero_le _) (Nat.zero_le _) (Nat.zero_le _) SOk.empty))
section
variable {P : Program} {w : World} {K : PySem.W.Frag} {mg : Str → Option Value} {base : Heap} {f : Addr} {cdv : Value} {A0 : Around} {outer : List Env} {s0 : Shared} {HE : Hp} {E : XK} {e : DX} {n : Nat}
theorem bl_k6 (T : Tx K mg) (c__law_roll : CalX P w K mg base 1 "_law_roll" (spD K Dn.cRoll) []) (c__law_markup : CalX P w K mg base (n + 2) "_law_markup" (spD K (cMk n)) []) (hr : Room (n + 2) (A0.deeper (envOfC "_law_markup" (defScope s_law_markup) s0.heap.objs.size f cdv))) :
    ∃ t, PSs (mcx P w K mg base f cdv A0 outer s0 HE E) bd_k6 (tDS K E e t) ∧ ∀ (D : DEnds) (S0 S : Store) (d nm : Addr) (deep k i : Nat) (x : Str) (ts : List Tr) (tag : Str) (a1 a2 : List At1) (u4 u8 : Option Dt), deep < n + 1 → DiS S0 S d nm k → k + Mn deep ≤ 200 → MkP deep i (Mn deep) x ts → i ≤ 2 → tag ∈ tagsL → AsOk (a1 ++ a2) → SOk (txA a1) → SOk (txA a2) →
      (∀ S' x' ts' k' u8, DiS S0 S' d nm k' → k' ≤ k + Mn deep → MkP deep (i + 1) (Mn deep) x' ts' → D.nx [some (.ref d), some (.int (deep : Nat)), some (.ref nm), some (.str x'), u4, some (.str (txA a1)), some (.str tag), some (.str (txA a2)), u8] S') →
      t D [some (.ref d), some (.int (deep : Nat)), some (.ref nm), some (.str x), u4, some (.str (txA a1)), some (.str tag), some (.str (txA a2)), u8] S := by
  refine ⟨_, (dss_cons (ds_set (i := 8) sc_law_markup.nd rfl (Or.inl rfl) (de_if (dt_cmp (od_in rfl (hW_of hr)) (dv (pv 6)) (de_lst (da_cons de_str (da_cons de_str da_nil)))) de_str (de_op (od_add rfl) (de_ix rfl (de_lst (da_cons de_str (da_cons de_str (da_cons de_str da_nil)))) (de_call rfl c__law_roll dfl_nil hr (by omega) rfl paX (da_cons (dv (pv 0)) (da_cons de_int da_nil)))) (de_if (PW.pt (dt_and (dt_cmp od_gt (dv (pv 1)) de_int) (dt_and (dt_cmp (od_notin rfl (hW_of hr)) (dv (pv 6)) (de_lst (da_cons de_str (da_cons de_str da_nil)))) (pw_and1 (dt_cmp (od_eq rfl (hU_of hr)) (de_call rfl c__law_roll dfl_nil hr (by omega) rfl paX (da_cons (dv (pv 0)) (da_cons de_int da_nil))) de_int))))) (de_call rfl c__law_markup dfl_nil hr (by omega) rfl paX (da_cons (dv (pv 0)) (da_cons (de_op od_sub (dv (pv 1)) de_int) (da_cons (dv (pv 2)) da_nil)))) de_str))))
  (dss_one (ds_set (i := 3) sc_law_markup.nd rfl (Or.inl rfl) (de_op (od_add rfl) (de_op (od_add rfl) (de_op (od_add rfl) (de_op (od_add rfl) (de_op (od_add rfl) (de_op (od_add rfl) (dv (pv 3)) de_str) (dv (pv 6))) (dv (pv 5))) (dv (pv 7))) de_str) (de_if (dt_cmp (od_notin rfl (hW_of hr)) (dv (pv 6)) (de_lst (da_cons de_str (da_cons de_str da_nil)))) (de_op (od_add rfl) (de_op (od_add rfl) (de_op (od_add rfl) (dv (pv 8)) de_str) (dv (pv 6))) de_str) de_str))))), fun D S0 S d nm deep k i x ts tag a1 a2 u4 u8 hn di hk mk hi ht ha s1 s2 nx => ?_⟩
  obtain ⟨f1, f2, f3, f4, f5, f6, f7, f9⟩ := tag_facts tag ht
  have hl := ha.len
  rw [← txA_app, app_len] at hl
  have hx := mk.ln
  have hb : Mn deep ≤ 200 := by omega
  have hxl : x.length ≤ 200000 := Nat.le_trans hx (Nat.le_trans (Nat.mul_le_mul hi (show 360 + 360 * Mn deep ≤ 72360 by omega)) (by decide))
  walk_at "go"
  refine in_lst ["input", "img"] rfl ?_
  walk_at "go"
  refine mdec (fun hv => ?_) (fun hv => ?_)
  · have hv' : tag ∈ voidL := hv
    walk_at "go"
    refine nin_lst ["input", "img"] rfl ?_
    rw [decide_eq_true hv]
    walk_at "go"
    rw [found_eq]
    have m2 := mk.add (w := "") (xr := "") (rs := []) ht ha (by decide) Draws.nil (.inl rfl) (fun _ => ⟨rfl, rfl⟩) (fun _ => ⟨rfl, rfl⟩) trivial (Nat.zero_le _) (Nat.zero_le _) (Nat.zero_le _) SOk.empty (by rw [← txA_app]; exact s1.app s2 (by have : (16777216 : Nat) ≤ sizeLine := Nat.le_of_ble_eq_true rfl; omega)) hb (by omega)
    unfold elemS at m2
    rw [if_pos hv'] at m2
    exact nx _ _ _ k _ di (by omega) m2
  · have hv' : tag ∉ voidL := hv
    have fin : ∀ S1 k' wd xr rs, DiS S0 S1 d nm k' → k' ≤ k + Mn deep → wd ∈ wordsL → Draws deep (cs xr) rs → (cs xr = [] ∨ (cs xr).head? = some 60) → (tag = "p" ∨ tag = "li" → xr = "" ∧ rs = []) → GdL rs → sizeL rs ≤ 2 * Mn deep → depthL rs ≤ deep → xr.length ≤ 360 * Mn deep → SOk xr → D.nx [some (.ref d), some (.int (deep : Nat)), some (.ref nm), some (.str (x ++ "<" ++ tag ++ txA a1 ++ txA a2 ++ ">" ++ (wd ++ xr ++ "</" ++ tag ++ ">"))), u4, some (.str (txA a1)), some (.str tag), some (.str (txA a2)), some (.str (wd ++ xr))] S1 := fun S1 k' wd xr rs q1 q2 q3 q4 q5 q6 q7 q8 q9 q10 q11 => by
      have m2 := mk.add (w := wd) (xr := xr) (rs := rs) ht ha q3 q4 q5 (fun z => absurd z hv') q6 q7 q8 q9 q10 q11 (by rw [← txA_app]; exact s1.app s2 (by have : (16777216 : Nat) ≤ sizeLine := Nat.le_of_ble_eq_true rfl; omega)) hb (by omega)
      unfold elemS at m2
      rw [if_neg hv'] at m2
      rw [found_eq]
      exact nx _ _ _ k' _ q1 q2 m2
    walk_at "go"
    refine di.roll (by decide) fun r S1 r0 r1 di1 => ?_
    obtain ⟨wd, hw, ew⟩ : ∃ wd ∈ wordsL, atI [Dt.str "word", .str "", .str " two  words "] r = some (.str wd) := by
      rcases (by omega : r = 0 ∨ r = 1 ∨ r = 2) with rfl | rfl | rfl
      · exact ⟨"word", by decide, rfl⟩
      · exact ⟨"", by decide, rfl⟩
      · exact ⟨" two  words ", by decide, rfl⟩
    have lw := (word_ok wd hw).2
    walk_at "go"
    refine ⟨_, ew, ?_⟩
    walk_at "go"
    refine mdec (fun hd0 => ?_) (fun hd0 => ?_)
    · walk_at "go"
      refine nin_lst ["p", "li"] rfl ?_
      walk_at "go"
      refine mdecN (fun hp => ?_) (fun hp => ?_)
      · walk_at "go"
        refine di1.roll (by decide) fun r2 S2 r20 r21 di2 => ?_
        walk_at "go"
        refine mdec (fun h2 => ?_) (fun h2 => ?_)
        · obtain ⟨deep, rfl⟩ : ∃ j, deep = j + 1 := ⟨deep - 1, by omega⟩
          walk_at "go"
          rw [show ((deep + 1 : Nat) : Int) - 1 = (deep : Nat) by omega]
          refine ⟨d, nm, deep, k, rfl, by omega, di2.self, hk, fun S3 xr rs k2 di3 hk3 mk3 => ?_⟩
          have en : Mn (deep + 1) = Nn deep := rfl
          have en2 := Nn_eq deep
          have m1 := mk3.sz
          have m2 := mk3.ln
          have m3 := mk3.so
          rw [en] at hb
          walk_at "go"
          refine nin_lst ["input", "img"] rfl ?_
          rw [decide_eq_false hv]
          walk_at "go"
          exact fin _ k2 wd xr rs (di2.trans di3) (by rw [en]; exact hk3) hw mk3.dr mk3.hd (fun z => absurd (by rcases z with rfl | rfl <;> decide) hp) mk3.gd (by rw [en]; omega) mk3.dp (by rw [en]; omega) m3
        · walk_at "k6"
      · walk_at "k6"
    · walk_at "k6"
theorem bl_k3 (T : Tx K mg) (c__law_roll : CalX P w K mg base 1 "_law_roll" (spD K Dn.cRoll) []) (c__law_markup : CalX P w K mg base (n + 2) "_law_markup" (spD K (cMk n)) []) (hr : Room (n + 2) (A0.deeper (envOfC "_law_markup" (defScope s_law_markup) s0.heap.objs.size f cdv))) :
    ∃ t, PSs (mcx P w K mg base f cdv A0 outer s0 HE E) bd_k3 (tDS K E e t) ∧ ∀ (D : DEnds) (S0 S : Store) (d nm : Addr) (deep k i : Nat) (x : Str) (ts : List Tr) (tag : Str) (a1 : List At1) (u4 u7 u8 : Option Dt), deep < n + 1 → DiS S0 S d nm k → k + Mn deep ≤ 200 → MkP deep i (Mn deep) x ts → i ≤ 2 → tag ∈ tagsL → M0ok a1 →
      (∀ S' x' ts' k' u7 u8, DiS S0 S' d nm k' → k' ≤ k + Mn deep → MkP deep (i + 1) (Mn deep) x' ts' → D.nx [some (.ref d), some (.int (deep : Nat)), some (.ref nm), some (.str x'), u4, some (.str (txA a1)), some (.str tag), u7, u8] S') →
      t D [some (.ref d), some (.int (deep : Nat)), some (.ref nm), some (.str x), u4, some (.str (txA a1)), some (.str tag), u7, u8] S := by
  obtain ⟨t6, p_k6, h_k6⟩ := bl_k6 (f := f) (cdv := cdv) (A0 := A0) (outer := outer) (s0 := s0) (HE := HE) (E := E) (e := e) T c__law_roll c__law_markup hr
  refine ⟨_, (dss_cons (ds_set (i := 7) sc_law_markup.nd rfl (Or.inl rfl) (de_ix rfl (de_lst (da_cons de_str (da_cons de_str (da_cons de_str (da_cons de_str (da_cons de_str (da_cons de_str (da_cons de_str (da_cons de_str (da_cons (de_op (od_add rfl) (de_op (od_add rfl) de_str (de_ix rfl (de_lst (da_cons de_str (da_cons de_str (da_cons de_str (da_cons de_str (da_cons de_str (da_cons de_str da_nil))))))) (de_call rfl c__law_roll dfl_nil hr (by omega) rfl paX (da_cons (dv (pv 0)) (da_cons de_int da_nil))))) de_str) (da_cons de_str (da_cons de_str da_nil)))))))))))) (de_call rfl c__law_roll dfl_nil hr (by omega) rfl paX (da_cons (dv (pv 0)) (da_cons de_int da_nil)))))
  (dss_cons (ds_set (i := 7) sc_law_markup.nd rfl (Or.inl rfl) (de_op (od_add rfl) (de_op (od_add rfl) (dv (pv 7)) (de_op od_mul (de_ix rfl (de_lst (da_cons de_str (da_cons de_str da_nil))) (de_call rfl c__law_roll dfl_nil hr (by omega) rfl paX (da_cons (dv (pv 0)) (da_cons de_int da_nil)))) (de_callTy cd_int (by rfl) T.b_int (by decide +kernel) (da_cons (de_cmp (od_eq rfl (hU_of hr)) (dv (pv 6)) de_str) da_nil)))) (de_op od_mul (de_ix rfl (de_lst (da_cons de_str (da_cons de_str (da_cons de_str (da_cons de_str (da_cons de_str da_nil)))))) (de_call rfl c__law_roll dfl_nil hr (by omega) rfl paX (da_cons (dv (pv 0)) (da_cons de_int da_nil)))) (de_callTy cd_int (by rfl) T.b_int (by decide +kernel) (da_cons (de_cmp (od_eq rfl (hU_of hr)) (dv (pv 6)) de_str) da_nil)))))
  (dss_cons (ds_set (i := 7) sc_law_markup.nd rfl (Or.inl rfl) (de_if (dt_cmp (od_eq rfl (hU_of hr)) (dv (pv 6)) de_str) (de_op (od_add rfl) (de_op (od_add rfl) (de_op (od_add rfl) (dv (pv 7)) de_str) (de_callTy cd_str (by rfl) T.b_str (by decide +kernel) (da_cons (de_op (od_add rfl) de_int (de_call rfl c__law_roll dfl_nil hr (by omega) rfl paX (da_cons (dv (pv 0)) (da_cons de_int da_nil)))) da_nil))) (de_op od_mul de_str (de_callTy cd_int (by rfl) T.b_int (by decide +kernel) (da_cons (de_cmp (od_eq rfl (hU_of hr)) (dv (pv 6)) de_str) da_nil)))) (dv (pv 7))))
  p_k6))), fun D S0 S d nm deep k i x ts tag a1 u4 u7 u8 hn di hk mk hi ht h0 nx => ?_⟩
  have fin : ∀ S2 m1 m2, DiS S0 S2 d nm k → M1ok m1 → M2ok m2 → t6 D [some (.ref d), some (.int (deep : Nat)), some (.ref nm), some (.str x), u4, some (.str (txA a1)), some (.str tag), some (.str (txA (m1 ++ m2))), u8] S2 := fun S2 m1 m2 g h1 h2 => by
    have a := three h0 h1 h2
    have a2 : AsOk (m1 ++ m2) := ⟨fun b hb => a.it b (List.mem_append_right _ hb), (List.nodup_append.mp (by have := a.nd; rw [List.map_append] at this; exact this)).2.1, by have := h1.1; have := h2.1; rw [List.length_append]; omega⟩
    have a1' : AsOk a1 := ⟨fun b hb => a.it b (List.mem_append_left _ hb), (List.nodup_append.mp (by have := a.nd; rw [List.map_append] at this; exact this)).1, by have := h0.1; omega⟩
    exact h_k6 D S0 S2 d nm deep k i x ts tag a1 (m1 ++ m2) u4 u8 hn g hk mk hi ht a a1'.so a2.so fun S' x' ts' k' u8' q1 q2 q3 => nx S' x' ts' k' _ u8' q1 q2 q3
  walk_at "go"
  refine di.roll (by decide) fun r S1 r0 r1 di1 => ?_
  obtain ⟨o, ho, eo⟩ : ∃ o ∈ ordS, atI [Dt.str "1", .str "2", .str "-1", .str "0", .str "x", .str "00002"] r = some (.str o) := by
    rcases (by omega : r = 0 ∨ r = 1 ∨ r = 2 ∨ r = 3 ∨ r = 4 ∨ r = 5) with rfl | rfl | rfl | rfl | rfl | rfl
    · exact ⟨"1", by decide, rfl⟩
    · exact ⟨"2", by decide, rfl⟩
    · exact ⟨"-1", by decide, rfl⟩
    · exact ⟨"0", by decide, rfl⟩
    · exact ⟨"x", by decide, rfl⟩
    · exact ⟨"00002", by decide, rfl⟩
  have lo : o.length ≤ 5 := by
    have h : ordS.all (fun o => decide (o.length ≤ 5)) = true := by decide +kernel
    exact of_decide_eq_true (List.all_eq_true.mp h o ho)
  walk_at "go"
  refine ⟨_, eo, ?_⟩
  walk_at "go"
  refine di1.roll (by decide) fun r2 S2 r20 r21 di2 => ?_
  obtain ⟨m1, e1, h1⟩ := more1 ho r20 r21
  have hm1 := (three h0 h1 m2nil).len
  walk_at "go"
  refine ⟨_, e1, ?_⟩
  walk_at "go"
  refine di2.roll (by decide) fun r3 S3 r30 r31 di3 => ?_
  obtain ⟨ma, ea, ha⟩ := moreA r30 r31
  walk_at "go"
  refine ⟨_, ea, ?_⟩
  walk_at "go"
  have hma := (three h0 h1 ha).len
  rw [← txA_app, ← txA_app, app_len, app_len] at hma
  refine ⟨mul01 _ (by omega), ?_⟩
  obtain ⟨ma', ha', ea', na⟩ := if_m2 (p := tag = "a") ha
  rw [rep01, ea']
  have hma' := (three h0 h1 ha').len
  rw [← txA_app, ← txA_app, app_len, app_len] at hma'
  walk_at "go"
  refine di3.roll (by decide) fun r4 S4 r40 r41 di4 => ?_
  obtain ⟨mt, et, hmt⟩ := moreT r40 r41
  walk_at "go"
  refine ⟨_, et, ?_⟩
  walk_at "go"
  have hlt := (three h0 h1 hmt).len
  rw [← txA_app, ← txA_app, app_len, app_len] at hlt
  refine ⟨mul01 _ (by omega), ?_⟩
  obtain ⟨mt', ht', et', nt⟩ := if_m2 (p := tag = "input") hmt
  rw [rep01, et']
  have hlt' := (three h0 h1 ht').len
  rw [← txA_app, ← txA_app, app_len, app_len] at hlt'
  walk_at "go"
  by_cases hl : tag = "label"
  · have e1 : ma' = [] := na (by rw [hl]; decide)
    have e2 : mt' = [] := nt (by rw [hl]; decide)
    subst e1
    subst e2
    rw [decide_eq_true hl]
    walk_at "go"
    refine di4.roll (by decide) fun r5 S5 r50 r51 di5 => ?_
    obtain ⟨r5, rfl⟩ := Int.eq_ofNat_of_zero_le r50
    obtain ⟨f1, f2⟩ := moreF (k := 1 + r5) (by omega)
    have hlf := (three h0 h1 f2).len
    rw [← txA_app, ← txA_app, ← f1] at hlf
    simp only [app_len] at hlf
    have en : txA ([] : List At1) = "" := rfl
    walk_at "go"
    rw [show (1 : Int) + (r5 : Nat) = ((1 + r5 : Nat) : Int) by omega, show toString ((1 + r5 : Nat) : Int) = toString (1 + r5) from rfl]
    refine ⟨num_ok (i := ((1 + r5 : Nat) : Int)) (by omega) (by omega), ?_⟩
    walk_at "go"
    rw [decide_eq_true hl]
    refine ⟨mul01 _ (by decide), ?_⟩
    rw [rep01, if_pos rfl]
    walk_at "go"
    have := fin S5 m1 [aV "for" (eN (1 + r5))] di5 h1 f2
    rw [← txA_app, ← f1] at this
    rw [en, str_app_nil, str_app_nil, app_as, app_as, ← app_as (" for=\"e" : Str)]
    exact this
  · rw [decide_eq_false hl]
    walk_at "go"
    rw [app_as, txA_app, txA_app]
    refine fin S4 m1 (ma' ++ mt') di4 h1 ?_
    by_cases h : tag = "a"
    · rw [nt (by rw [h]; decide), List.append_nil]
      exact ha'
    · rw [na h, List.nil_append]
      exact ht'
end
end K19

open PySem PySem.Spec PyProof.Rows L2 Pr Dn LamX

namespace K19
open Mk
local macro_rules | `(tactic| walk_at "len") => `(tactic| (simp only [app_len, show ("\"" : Str).length = 1 from rfl, show (" id=\"e" : Str).length = 6 from rfl]; omega))
section
variable {P : Program} {w : World} {K : PySem.W.Frag} {mg : Str → Option Value} {base : Heap} {f : Addr} {cdv : Value} {A0 : Around} {outer : List Env} {s0 : Shared} {HE : Hp} {E : XK} {e : DX} {n : Nat}
theorem bl_k1 (T : Tx K mg) (c__law_roll : CalX P w K mg base 1 "_law_roll" (spD K Dn.cRoll) []) (c__law_markup : CalX P w K mg base (n + 2) "_law_markup" (spD K (cMk n)) []) (hr : Room (n + 2) (A0.deeper (envOfC "_law_markup" (defScope s_law_markup) s0.heap.objs.size f cdv))) :
    ∃ t, PSs (mcx P w K mg base f cdv A0 outer s0 HE E) bd_k1 (tDS K E e t) ∧ ∀ (D : DEnds) (S0 S : Store) (d nm : Addr) (deep k i : Nat) (x : Str) (ts : List Tr) (u4 u5 u6 u7 u8 : Option Dt), deep < n + 1 → DiS S0 S d nm k → k + Mn deep ≤ 200 → MkP deep i (Mn deep) x ts → i ≤ 2 →
      (∀ S' x' ts' k' u5 u6 u7 u8, DiS S0 S' d nm k' → k' ≤ k + Mn deep → MkP deep (i + 1) (Mn deep) x' ts' → D.nx [some (.ref d), some (.int (deep : Nat)), some (.ref nm), some (.str x'), u4, u5, u6, u7, u8] S') →
      t D [some (.ref d), some (.int (deep : Nat)), some (.ref nm), some (.str x), u4, u5, u6, u7, u8] S := by
  obtain ⟨t3, p_k3, h_k3⟩ := bl_k3 (f := f) (cdv := cdv) (A0 := A0) (outer := outer) (s0 := s0) (HE := HE) (E := E) (e := e) T c__law_roll c__law_markup hr
  refine ⟨_, (dss_cons (ds_set (i := 5) sc_law_markup.nd rfl (Or.inl rfl) (de_if (dt_cmp (od_eq rfl (hU_of hr)) (de_call rfl c__law_roll dfl_nil hr (by omega) rfl paX (da_cons (dv (pv 0)) (da_cons de_int da_nil))) de_int) (de_op (od_add rfl) (de_op (od_add rfl) de_str (de_callTy cd_str (by rfl) T.b_str (by decide +kernel) (da_cons (de_ixC (n := 0) rfl (dv (pv 2))) da_nil))) de_str) de_str))
  (dss_cons (ds_set (i := 6) sc_law_markup.nd rfl (Or.inl rfl) (de_ix rfl (de_lst (da_cons de_str (da_cons de_str (da_cons de_str (da_cons de_str (da_cons de_str (da_cons de_str (da_cons de_str (da_cons de_str (da_cons de_str (da_cons de_str (da_cons de_str (da_cons de_str da_nil))))))))))))) (de_call rfl c__law_roll dfl_nil hr (by omega) rfl paX (da_cons (dv (pv 0)) (da_cons de_int da_nil)))))
  p_k3)), fun D S0 S d nm deep k i x ts u4 u5 u6 u7 u8 hn di hk mk hi nx => ?_⟩
  have fin : ∀ S2 a1 tag, DiS S0 S2 d nm k → M0ok a1 → tag ∈ tagsL → t3 D [some (.ref d), some (.int (deep : Nat)), some (.ref nm), some (.str x), u4, some (.str (txA a1)), some (.str tag), u7, u8] S2 := fun S2 a1 tag g h0 ht => h_k3 D S0 S2 d nm deep k i x ts tag a1 u4 u7 u8 hn g hk mk hi ht h0 fun S' x' ts' k' v7 v8 q1 q2 q3 => nx S' x' ts' k' _ _ v7 v8 q1 q2 q3
  have tags : ∀ r : Int, 0 ≤ r → r < 12 → ∃ tag ∈ tagsL, atI [Dt.str "a", .str "button", .str "input", .str "img", .str "h1", .str "h2", .str "ul", .str "li", .str "p", .str "div", .str "label", .str "section"] r = some (.str tag) := fun r r0 r1 => by
    rcases (by omega : r = 0 ∨ r = 1 ∨ r = 2 ∨ r = 3 ∨ r = 4 ∨ r = 5 ∨ r = 6 ∨ r = 7 ∨ r = 8 ∨ r = 9 ∨ r = 10 ∨ r = 11) with rfl | rfl | rfl | rfl | rfl | rfl | rfl | rfl | rfl | rfl | rfl | rfl
    · exact ⟨"a", by decide, rfl⟩
    · exact ⟨"button", by decide, rfl⟩
    · exact ⟨"input", by decide, rfl⟩
    · exact ⟨"img", by decide, rfl⟩
    · exact ⟨"h1", by decide, rfl⟩
    · exact ⟨"h2", by decide, rfl⟩
    · exact ⟨"ul", by decide, rfl⟩
    · exact ⟨"li", by decide, rfl⟩
    · exact ⟨"p", by decide, rfl⟩
    · exact ⟨"div", by decide, rfl⟩
    · exact ⟨"label", by decide, rfl⟩
    · exact ⟨"section", by decide, rfl⟩
  walk_at "go"
  refine di.roll (by decide) fun r S1 r0 r1 di1 => ?_
  have hn1 := di1.hn
  walk_at "go"
  refine mdec (fun h0 => ?_) (fun h0 => ?_)
  · obtain ⟨f1, f2⟩ := markI (k := k) (by omega)
    walk_at "go"
    rw [show toString ((k : Nat) : Int) = toString k from rfl]
    refine ⟨num_ok (i := (k : Int)) (by omega) (by omega), ?_⟩
    have m0 : M0ok [aV "id" (eN k)] := ⟨Nat.le_refl _, fun b hb => by rw [List.mem_singleton.mp hb]; exact ⟨f2, rfl⟩⟩
    have hl := (three m0 m1nil m2nil).len
    rw [← txA_app, ← f1] at hl
    simp only [app_len] at hl
    walk_at "go"
    rw [f1]
    refine di1.roll (by decide) fun r2 S2 r20 r21 di2 => ?_
    obtain ⟨tag, ht, et⟩ := tags r2 r20 r21
    walk_at "go"
    refine ⟨_, et, ?_⟩
    walk_at "go"
    exact fin S2 _ tag di2 m0 ht
  · walk_at "go"
    refine di1.roll (by decide) fun r2 S2 r20 r21 di2 => ?_
    obtain ⟨tag, ht, et⟩ := tags r2 r20 r21
    walk_at "go"
    refine ⟨_, et, ?_⟩
    walk_at "go"
    exact fin S2 [] tag di2 ⟨Nat.zero_le _, nofun⟩ ht
end
section
variable {P : Program} {w : World} {K : PySem.W.Frag} {mg : Str → Option Value} {base : Heap}
theorem MkP.mono {deep i j b : Nat} {x : Str} {ts : List Tr} (h : MkP deep i b x ts) (hj : i ≤ j) : MkP deep j b x ts := ⟨h.dr, h.hd, h.gd, Nat.le_trans h.sz (Nat.mul_le_mul_right _ hj), h.dp, Nat.le_trans h.ln (Nat.mul_le_mul_right _ hj), h.so⟩
theorem ok_mk (n : Nat) (T : Tx K mg) (c__law_roll : CalX P w K mg base 1 "_law_roll" (spD K Dn.cRoll) []) (c__law_markup : CalX P w K mg base (n + 2) "_law_markup" (spD K (cMk n)) []) {f : Addr} {fd : FuncData} (F : FunD K "_law_markup" "_law_markup" (defArgs s_law_markup) (defBody s_law_markup) (defScope s_law_markup) [] [] f fd) : FnOk P w K mg base (L2.CX P w) (n + 3) f fd ["dice", "deep", "names"] (spD K (cMk (n + 1))) := by
  refine dfn 9 F sc_law_markup (fun ds S q e h => ?_) rfl (fun cdv A0 outer s H E e hr => ?_)
  · obtain ⟨_, _, _, _, rfl, _⟩ := h
    rfl
  obtain ⟨t1, p_k1, h_k1⟩ := bl_k1 (f := f) (cdv := cdv) (A0 := A0) (outer := outer) (s0 := s) (HE := H) (E := E) (e := e) T c__law_roll c__law_markup hr
  refine ⟨_, (dss_cons (ds_set (i := 3) sc_law_markup.nd rfl (Or.inl rfl) de_str)
  (dss_cons (ds_for poX rfl (di_range1 (by rfl) T.b_range (da_cons (de_op (od_add rfl) de_int (de_call rfl c__law_roll dfl_nil hr (by omega) rfl paX (da_cons (dv (pv 0)) (da_cons de_int da_nil)))) da_nil)) (dg_name (i := 4) sc_law_markup.nd rfl (Or.inl rfl)) (dss_cons (ds_asg (de_op (od_add rfl) (de_ixC (n := 0) rfl (dv (pv 2))) de_int) (dg_subL (dv (pv 2)) de_int))
  p_k1))
  (dss_one (ds_ret (dv (pv 3)))))), fun ds S q h => ?_⟩
  obtain ⟨d, nm, deep, k, rfl, hn, di, hk, h⟩ := h
  walk_at "go"
  refine di.roll (by decide) fun r S1 r0 r1 di1 => ?_
  obtain ⟨r, rfl⟩ := Int.eq_ofNat_of_zero_le r0
  walk_at "go"
  rw [show ((1 : Int) + (r : Nat)).toNat = 1 + r by omega]
  have en := Nn_eq deep
  refine forGo_rng 0 (1 + r) (fun i δ S2 => ∃ x ts k' u4 u5 u6 u7 u8, DiS S S2 d nm k' ∧ k' ≤ k + i * (1 + Mn deep) ∧ MkP deep i (Mn deep) x ts ∧ δ = [some (.ref d), some (.int (deep : Nat)), some (.ref nm), some (.str x), u4, u5, u6, u7, u8]) (fun i δ S2 hi hI nx kk => ?_) (fun δ S2 hI => ?_) ⟨"", [], k, _, _, _, _, _, di1, by omega, MkP.nil, rfl⟩
  · obtain ⟨x, ts, k', u4, u5, u6, u7, u8, di2, hk2, mk, rfl⟩ := hI
    have hn2 := di2.hn
    have hm : (i + 1) * (1 + Mn deep) ≤ 3 * (1 + Mn deep) := Nat.mul_le_mul_right _ (by omega)
    have hs : (i + 1) * (1 + Mn deep) = i * (1 + Mn deep) + (1 + Mn deep) := Nat.succ_mul _ _
    walk_at "go"
    rw [show (k' : Int) + 1 = ((k' + 1 : Nat) : Int) by omega]
    have di3 := di2.name (k' + 1)
    exact h_k1 _ S _ d nm deep (k' + 1) i x ts _ _ _ _ _ hn di3 (by omega) mk (by omega) fun S' x' ts' k2 v5 v6 v7 v8 q1 q2 q3 => kk _ _ ⟨x', ts', k2, _, v5, v6, v7, v8, q1, by omega, q3, rfl⟩
  · obtain ⟨x, ts, k', u4, u5, u6, u7, u8, di2, hk2, mk, rfl⟩ := hI
    have hm : (1 + r) * (1 + Mn deep) ≤ 3 * (1 + Mn deep) := Nat.mul_le_mul_right _ (by omega)
    walk_at "go"
    exact h S2 x ts k' di2 (by omega) (mk.mono (by omega))
end
end K19

open PySem PySem.Spec PyProof.Rows L2 Pr Dn LamX

namespace K19
open Mk
def rowsD (fd : Fd) : List (Key × Dt) := encD Dt.str (srtSS fd)
theorem rows_get {fd : Fd} (nd : (fd.map (·.1)).Nodup) (k : Str) : kGet (rowsD fd) (Sum.inr k) = (aGet fd k).map Dt.str := by
  unfold rowsD
  rw [encD_get]
  have p : (srtSS fd).Perm fd := List.mergeSort_perm _ _
  have nd2 : ((srtSS fd).map (·.1)).Nodup := (p.map _).nodup_iff.mpr nd
  congr 1
  cases e : aGet fd k with
  | some v => exact aGet_of_mem nd2 (p.mem_iff.mpr (aGet_mem e))
  | none => exact aGet_none.mpr fun v hm => aGet_none.mp e v (p.mem_iff.mp hm)
theorem rows_non {fd : Fd} (nd : (fd.map (·.1)).Nodup) (k : Str) : (kGet (rowsD fd) (Sum.inr k)).getD .non = oS (aGet fd k) := by
  rw [rows_get nd]
  cases aGet fd k <;> rfl
theorem rows_str {fd : Fd} (nd : (fd.map (·.1)).Nodup) (k z : Str) : (kGet (rowsD fd) (Sum.inr k)).getD (.str z) = .str ((aGet fd k).getD z) := by
  rw [rows_get nd]
  cases aGet fd k <;> rfl
theorem rows_has {fd : Fd} (nd : (fd.map (·.1)).Nodup) (k : Str) : (kGet (rowsD fd) (Sum.inr k)).isSome = (aGet fd k).isSome := by
  rw [rows_get nd]
  cases aGet fd k <;> rfl
def rolesL : List (Str × Str) := [("a", "link"), ("button", "button"), ("img", "image"), ("li", "item"), ("ul", "list"), ("main", "main"), ("section", "part"), ("h1", "heading"), ("h2", "heading"), ("p", "text")]
theorem rolesL_get {tag : Str} (h : tag ∉ badTags) : (kGet (kMerge [] (encD Dt.str rolesL)) (Sum.inr tag)).getD .non = oS (aGet rolesS tag) := by
  rw [encD_merge (by decide +kernel), encD_get]
  have e : aGet rolesL tag = aGet rolesS tag := by
    have h1 : tag ≠ "ol" := fun e => h (by rw [e]; decide)
    have h2 : tag ≠ "form" := fun e => h (by rw [e]; decide)
    unfold aGet rolesL rolesS
    simp only [List.find?_cons, decide_eq_false h1.symm, decide_eq_false h2.symm]
  rw [e]
  cases aGet rolesS tag <;> rfl
def cRoleL : DSp := fun ds S q _ => ∃ tag fd, ds = [.str tag, .dic (rowsD fd)] ∧ (fd.map (·.1)).Nodup ∧ tag ∉ badTags ∧ q (oS (roleF tag fd)) S
def cOrderL : DSp := fun ds S q _ => ∃ fd, ds = [.dic (rowsD fd)] ∧ AtOk fd ∧ q (oInt (orderF fd)) S
section
variable {P : Program} {w : World} {K : PySem.W.Frag} {mg : Str → Option Value} {base : Heap}
theorem ok_roleL (T : Tx K mg) {f : Addr} {fd : FuncData} (F : FunD K "_law_role" "_law_role" (defArgs s_law_role) (defBody s_law_role) (defScope s_law_role) [] [] f fd) : FnOk P w K mg base (L2.CX P w) 1 f fd ["tag", "rows"] (spD K cRoleL) := by
  refine dfn 3 F sc_law_role (fun ds S q e h => ?_) rfl (fun cdv A0 outer s H E e hr => ⟨_, (dss_cons (ds_set (i := 2) sc_law_role.nd rfl (Or.inl rfl) (de_dget1 (hu_of hr) (dv (pv 1)) de_str ⟨by rfl, by rfl, by rfl, by rfl⟩))
  (dss_cons (ds_if (dt_cmp od_isNot (dv (pv 2)) de_non) (dss_one (ds_ret (de_if (dt_cmp (od_ne rfl (hU_of hr)) (dv (pv 2)) de_str) (dv (pv 2)) de_non))) dss_nil)
  (dss_cons (ds_if (dt_cmp (od_eq rfl (hU_of hr)) (dv (pv 0)) de_str) (dss_one (ds_ret (de_dget2 (hu_of hr) (de_disp (dps_cons de_str de_str (dps_cons de_str de_str (dps_cons de_str de_non dps_nil))) (by rfl) (by rfl) (fun z => by cases z) (by decide)) (de_dget2 (hu_of hr) (dv (pv 1)) de_str de_str ⟨by rfl, by rfl, by rfl, by rfl⟩) de_str ⟨by rfl, by rfl, by rfl, by rfl⟩))) dss_nil)
  (dss_cons (ds_if (PW.pt (dt_and (dt_cmp (od_eq rfl (hU_of hr)) (dv (pv 0)) de_str) (pw_and1 (dt_dnotin (hu_of hr) de_str (dv (pv 1)))))) (dss_one (ds_ret de_non)) dss_nil)
  (dss_one (ds_ret (de_dget1 (hu_of hr) (de_disp (dps_cons de_str de_str (dps_cons de_str de_str (dps_cons de_str de_str (dps_cons de_str de_str (dps_cons de_str de_str (dps_cons de_str de_str (dps_cons de_str de_str (dps_cons de_str de_str (dps_cons de_str de_str (dps_cons de_str de_str dps_nil)))))))))) (by rfl) (by rfl) (fun z => by cases z) (by decide)) (dv (pv 0)) ⟨by rfl, by rfl, by rfl, by rfl⟩))))))), fun ds S q h => ?_⟩)
  · obtain ⟨_, _, rfl, _⟩ := h
    rfl
  obtain ⟨tag, fd, rfl, nd, hb, h⟩ := h
  have rn := rows_non nd
  have rs := rows_str nd
  have rh := rows_has nd
  walk_at "go"
  rw [rn]
  cases e1 : aGet fd "role" with
  | some r =>
    rw [show roleF tag fd = if r ≠ "none" then some r else none from by unfold roleF; rw [e1]] at h
    walk_at "go"
    refine mdecN (fun h1 => ?_) (fun h1 => ?_)
    · rw [if_pos h1] at h
      walk_at "go"
      exact h
    · rw [if_neg (fun k => k h1)] at h
      walk_at "go"
      exact h
  | none =>
    walk_at "go"
    refine mdec (fun h1 => ?_) (fun h1 => ?_)
    · rw [show roleF tag fd = inR (kindF fd) from by unfold roleF; rw [e1]; exact if_pos h1] at h
      walk_at "go"
      rw [rs]
      walk_at "go"
      rw [show [((Sum.inr ("checkbox" : Str) : Key), Dt.str "mark"), (Sum.inr ("submit" : Str), .str "button"), (Sum.inr ("hidden" : Str), .non)] = encD oS inS from rfl, inD]
      rw [show inR (kindF fd) = inR ((aGet fd "type").getD "text") from by
        unfold kindF
        cases e2 : aGet fd "type" with
        | none => rfl
        | some z =>
          show inR (if z = "" then "text" else z) = inR z
          by_cases hz : z = ""
          · rw [if_pos hz, hz]
            decide +kernel
          · rw [if_neg hz]] at h
      exact h
    · have hr2 : roleF tag fd = if tag = "a" ∧ aGet fd "href" = none then none else aGet rolesS tag := by unfold roleF; rw [e1]; exact if_neg h1
      have fin : aGet rolesS tag = roleF tag fd → q (oS (aGet rolesS tag)) S := fun e => by rw [e]; exact h
      walk_at "go"
      refine mdec (fun h2 => ?_) (fun h2 => ?_)
      · walk_at "go"
        rw [rh]
        cases e2 : aGet fd "href" with
        | none =>
          rw [hr2, if_pos ⟨h2, e2⟩] at h
          rw [show (!(none : Option Str).isSome) = true from rfl]
          walk_at "go"
          exact h
        | some z =>
          rw [show (!(some z).isSome) = false from rfl]
          walk_at "go"
          rw [show [((Sum.inr ("a" : Str) : Key), Dt.str "link"), (Sum.inr ("button" : Str), .str "button"), (Sum.inr ("img" : Str), .str "image"), (Sum.inr ("li" : Str), .str "item"), (Sum.inr ("ul" : Str), .str "list"), (Sum.inr ("main" : Str), .str "main"), (Sum.inr ("section" : Str), .str "part"), (Sum.inr ("h1" : Str), .str "heading"), (Sum.inr ("h2" : Str), .str "heading"), (Sum.inr ("p" : Str), .str "text")] = encD Dt.str rolesL from rfl, rolesL_get hb]
          exact fin (by rw [hr2, if_neg (fun k => by rw [e2] at k; cases k.2)])
      · walk_at "go"
        rw [show [((Sum.inr ("a" : Str) : Key), Dt.str "link"), (Sum.inr ("button" : Str), .str "button"), (Sum.inr ("img" : Str), .str "image"), (Sum.inr ("li" : Str), .str "item"), (Sum.inr ("ul" : Str), .str "list"), (Sum.inr ("main" : Str), .str "main"), (Sum.inr ("section" : Str), .str "part"), (Sum.inr ("h1" : Str), .str "heading"), (Sum.inr ("h2" : Str), .str "heading"), (Sum.inr ("p" : Str), .str "text")] = encD Dt.str rolesL from rfl, rolesL_get hb]
        exact fin (by rw [hr2, if_neg (fun k => h2 k.1)])
set_option hygiene false in
local macro_rules | `(tactic| walk_at "ol") => `(tactic| (
  rcases hh with ⟨⟨p1, p2, p3⟩, n, p4, p5⟩ | ⟨p | ⟨p0, p⟩ | ⟨p1, p2, a, r, p3⟩, p5⟩
  · rw [p5] at h
    rw [show decide ((0 : Int) < (d.length : Nat)) = true from decide_eq_true (by omega)]
    walk_at "go"
    rw [show decide (((d.length : Nat) : Int) < 5) = true from decide_eq_true (by omega)]
    walk_at "go"
    rw [signs_lets]
    have ll : (lets d).length = d.length := by unfold lets; rw [List.length_map]; exact Array.length_toList
    refine ⟨by rw [List.length_map, ll]; exact size6 (by omega), lc_go ?_⟩
    refine lc_choose Dt.str (fun c => !hasS digS c) Dt.str trivial _ (fun y hy kY kN hY hN => ?_) ?_
    · walk_at "go"
      refine mblN (fun hb => ?_) (fun hb => ?_)
      · walk_at "go"
        exact hY (by rw [show hasS digS y = false from hb]; rfl)
      · walk_at "go"
        exact hN (by rw [show hasS digS y = true from hb]; rfl)
    rw [p3]
    walk_at "go"
    rw [show (List.map Dt.str ([] : List Str)).isEmpty = true from rfl]
    walk_at "go"
    rw [h1]
    walk_at "go"
    refine ⟨n, ⟨p4, by omega⟩, ?_⟩
    walk_at "go"
    exact h
  · rw [p5] at h
    rw [show decide ((0 : Int) < (d.length : Nat)) = false from decide_eq_false (by omega)]
    walk_at "go"
    exact h
  · rw [p5] at h
    rw [show decide ((0 : Int) < (d.length : Nat)) = true from decide_eq_true (by omega)]
    walk_at "go"
    rw [show decide (((d.length : Nat) : Int) < 5) = false from decide_eq_false (by omega)]
    walk_at "go"
    exact h
  · rw [p5] at h
    rw [show decide ((0 : Int) < (d.length : Nat)) = true from decide_eq_true (by omega)]
    walk_at "go"
    rw [show decide (((d.length : Nat) : Int) < 5) = true from decide_eq_true (by omega)]
    walk_at "go"
    rw [signs_lets]
    have ll : (lets d).length = d.length := by unfold lets; rw [List.length_map]; exact Array.length_toList
    refine ⟨by rw [List.length_map, ll]; exact size6 (by omega), lc_go ?_⟩
    refine lc_choose Dt.str (fun c => !hasS digS c) Dt.str trivial _ (fun y hy kY kN hY hN => ?_) ?_
    · walk_at "go"
      refine mblN (fun hb => ?_) (fun hb => ?_)
      · walk_at "go"
        exact hY (by rw [show hasS digS y = false from hb]; rfl)
      · walk_at "go"
        exact hN (by rw [show hasS digS y = true from hb]; rfl)
    rw [p3]
    walk_at "go"
    rw [show (List.map Dt.str (a :: r)).isEmpty = false from rfl]
    walk_at "go"
    exact h))
theorem ok_orderL (T : Tx K mg) {f : Addr} {fd : FuncData} (F : FunD K "_law_order" "_law_order" (defArgs s_law_order) (defBody s_law_order) (defScope s_law_order) [] [] f fd) : FnOk P w K mg base (L2.CX P w) 1 f fd ["rows"] (spD K cOrderL) := by
  refine dfn 4 F sc_law_order (fun ds S q e h => ?_) rfl (fun cdv A0 outer s H E e hr => ⟨_, (dss_cons (ds_set (i := 1) sc_law_order.nd rfl (Or.inl rfl) (de_dget2 (hu_of hr) (dv (pv 0)) de_str de_str ⟨by rfl, by rfl, by rfl, by rfl⟩))
  (dss_cons (ds_set (i := 2) sc_law_order.nd rfl (Or.inl rfl) (de_if (dt_cmp (od_eq rfl (hU_of hr)) (de_sl rfl (dv (pv 1)) do_none (do_some de_int)) de_str) (de_sl rfl (dv (pv 1)) (do_some de_int) do_none) (dv (pv 1))))
  (dss_one (ds_ret (de_if (PW.pt (dt_and (dt_chain od_lt od_lt de_int (de_callB (cd_len rfl) (by rfl) T.b_len (by decide +kernel) (da_cons (dv (pv 2)) da_nil)) de_int) (pw_and1 (dt_cmp (od_eqN (hW_of hr)) (de_lc (own := [("sign", 3)]) rfl sc_law_order.nd (di_str (dv (pv 2))) (blkOk_by (own := [("sign", 3)]) (N := sl_law_order) (sc := defScope s_law_order) (by decide +kernel)) (fun _ _ _ _ _ => (gw_name (i := 3) sc_law_order.nd rfl (Or.inl rfl) (by decide))) (fun _ _ _ _ _ => (ts_one (dt_cmp (od_notin rfl (hW_of hr)) (dv (pv 3)) de_str))) (fun _ _ _ _ _ => (dv (pv 3)))) (de_lst da_nil))))) (de_if (dt_cmp (od_eq rfl (hU_of hr)) (de_sl rfl (dv (pv 1)) do_none (do_some de_int)) de_str) (de_neg (de_callTy cd_intS (by rfl) T.b_int (by decide +kernel) (da_cons (dv (pv 2)) da_nil))) (de_callTy cd_intS (by rfl) T.b_int (by decide +kernel) (da_cons (dv (pv 2)) da_nil))) de_non))))), fun ds S q h => ?_⟩)
  · obtain ⟨_, rfl, _⟩ := h
    rfl
  obtain ⟨fd, rfl, ok, h⟩ := h
  have rs := rows_str ok.nd
  have key : ∃ (z : Str) (neg : Bool) (d : Str), (aGet fd "order").getD "" = z ∧ decide (cutS z none (some 1) = "-") = neg ∧ (neg = true → cutS z (some 1) none = d) ∧ (neg = false → z = d) ∧ d.length ≤ 5 ∧ (((0 < d.length ∧ d.length < 5 ∧ (lets d).filter (fun c => !hasS digS c) = []) ∧ ∃ n, PySem.intText? d = some n ∧ orderF fd = some (if neg = true then -n else n)) ∨ ((¬ 0 < d.length ∨ (0 < d.length ∧ ¬ d.length < 5) ∨ (0 < d.length ∧ d.length < 5 ∧ ∃ a r, (lets d).filter (fun c => !hasS digS c) = a :: r)) ∧ orderF fd = none)) := by
    cases e1 : aGet fd "order" with
    | none =>
      have ho : orderF fd = none := by unfold orderF; rw [e1]
      rw [ho]
      exact ⟨"", false, "", rfl, by decide +kernel, nofun, fun _ => rfl, by decide +kernel, .inr ⟨.inl (by decide +kernel), rfl⟩⟩
    | some z =>
      have hz := ok.o z e1
      have ho : orderF fd = if z = "1" then some 1 else if z = "2" then some 2 else if z = "-1" then some (-1) else if z = "0" then some 0 else none := by unfold orderF; rw [e1]
      rw [ho]
      simp only [ordS, List.mem_cons, List.not_mem_nil, or_false] at hz
      rcases hz with rfl | rfl | rfl | rfl | rfl | rfl
      · exact ⟨"1", false, "1", rfl, by decide +kernel, nofun, fun _ => rfl, by decide +kernel, .inl ⟨by decide +kernel, 1, by decide +kernel, by decide +kernel⟩⟩
      · exact ⟨"2", false, "2", rfl, by decide +kernel, nofun, fun _ => rfl, by decide +kernel, .inl ⟨by decide +kernel, 2, by decide +kernel, by decide +kernel⟩⟩
      · exact ⟨"-1", true, "1", rfl, by decide +kernel, fun _ => by decide +kernel, nofun, by decide +kernel, .inl ⟨by decide +kernel, 1, by decide +kernel, by decide +kernel⟩⟩
      · exact ⟨"0", false, "0", rfl, by decide +kernel, nofun, fun _ => rfl, by decide +kernel, .inl ⟨by decide +kernel, 0, by decide +kernel, by decide +kernel⟩⟩
      · exact ⟨"x", false, "x", rfl, by decide +kernel, nofun, fun _ => rfl, by decide +kernel, .inr ⟨.inr (.inr ⟨by decide +kernel, by decide +kernel, "x", [], by decide +kernel⟩), by decide +kernel⟩⟩
      · exact ⟨"00002", false, "00002", rfl, by decide +kernel, nofun, fun _ => rfl, by decide +kernel, .inr ⟨.inr (.inl (by decide +kernel)), by decide +kernel⟩⟩
  obtain ⟨z, neg, d, ez, h1, h2, h3, hl, hh⟩ := key
  walk_at "go"
  rw [rs, ez]
  walk_at "go"
  rw [h1]
  cases neg with
  | true =>
    have h2 := h2 rfl
    walk_at "go"
    rw [h2]
    walk_at "go"
    walk_at "ol"
  | false =>
    have h3 := (h3 rfl).symm
    subst h3
    walk_at "go"
    walk_at "ol"
end
end K19

open PySem PySem.Spec PyProof.Rows L2 Pr Dn LamX

namespace K19
open Mk
theorem join_e : ∀ (l : List Str), (Txt.join "" l).cps.toList = (l.map fun x => x.cps.toList).flatten
  | [] => by rw [TL.join_eq]; rfl
  | [x] => by rw [TL.join_eq]; show x.cps.toList = _; simp
  | x :: y :: r => by
    have ih := join_e (y :: r)
    rw [TL.join_eq] at ih ⊢
    rw [join_cons2, ih, List.map_cons, List.flatten_cons]
    rfl
theorem str_of {a b : Str} (h : a.cps.toList = b.cps.toList) : a = b := by
  have : mkS a.cps.toList = mkS b.cps.toList := by rw [h]
  exact this
theorem textsL_cat : ∀ (c : List Tr), ((textsL c).map fun x => x.cps.toList).flatten = ((c.map content).map fun x => x.cps.toList).flatten
  | [] => rfl
  | t :: r => by
    show ((texts t ++ textsL r).map _).flatten = (content t).cps.toList ++ _
    rw [List.map_append, List.flatten_append, textsL_cat r]
    unfold content
    rw [join_e]
theorem content_el (tag : Str) (fd : Fd) (c : List Tr) : content (.el tag fd c) = Txt.join "" (c.map content) := str_of (by
  unfold content
  rw [join_e]
  exact (textsL_cat c).trans (join_e _).symm)
theorem textsL_mem : ∀ {c : List Tr} {u : Tr}, u ∈ c → ∀ z ∈ texts u, z ∈ textsL c
  | t :: r, u, hu, z, hz => by
    rcases List.mem_cons.mp hu with rfl | hu
    · exact List.mem_append_left _ hz
    · exact List.mem_append_right _ (textsL_mem hu z hz)
theorem sizeL_mem : ∀ {c : List Tr} {u : Tr}, u ∈ c → size u ≤ sizeL c
  | t :: r, u, hu => by
    show size u ≤ size t + sizeL r
    rcases List.mem_cons.mp hu with rfl | hu
    · omega
    · have := sizeL_mem hu
      omega
def cWords (n : Nat) : DSp := fun ds S q _ => ∃ u, ds = [shD u] ∧ depth u < n ∧ TxOk u ∧ size u ≤ 900 ∧ q (.str (content u)) S
@[reducible] def evRow (x : En) : Dt := .tup [shD x.2.1, .lst (x.2.2.map fun y => shD y.2)]
def els (i : Nat) (ab : Ab) (u : Tr) : List En := (pre i ab u).filter fun x => isEl x.2.1
def cEvery (n : Nat) : DSp := fun ds S q _ => ∃ u i ab, ds = [shD u, .lst (ab.map fun y => shD y.2)] ∧ depth u < n ∧ size u ≤ 900 ∧ ab.length + depth u ≤ 100 ∧ q (.lst ((els i ab u).map evRow)) S
section
variable {P : Program} {w : World} {K : PySem.W.Frag} {mg : Str → Option Value} {base : Heap}
theorem no_words {f : Addr} {fd : FuncData} (F : FunD K "_law_words" "_law_words" (defArgs s_law_words) (defBody s_law_words) (defScope s_law_words) [] [] f fd) : FnOk P w K mg base (L2.CX P w) 1 f fd ["tree"] (spD K (cWords 0)) := fn_no F sc_law_words fun ds S q e h => by
  obtain ⟨_, _, h, _⟩ := h
  cases h
theorem ok_words (n : Nat) (T : Tx K mg) (c__law_words : CalX P w K mg base (n + 1) "_law_words" (spD K (cWords n)) []) {f : Addr} {fd : FuncData} (F : FunD K "_law_words" "_law_words" (defArgs s_law_words) (defBody s_law_words) (defScope s_law_words) [] [] f fd) : FnOk P w K mg base (L2.CX P w) (n + 2) f fd ["tree"] (spD K (cWords (n + 1))) := by
  refine dfn 2 F sc_law_words (fun ds S q e h => ?_) rfl (fun cdv A0 outer s H E e hr => ⟨_, (dss_one (ds_ret (de_if (de_tru rfl (de_callB (cd_isi (n := "str") rfl) (by rfl) T.b_isinstance (by decide +kernel) (da_cons (dv (pv 0)) (da_cons (de_c (d := .ty "str") (pe_bltn (v := .ty "str") (by rfl) T.b_str (by decide +kernel) rfl) (fun _ => rfl)) da_nil)))) (dv (pv 0)) (de_bm rfl is_tx PySem.F.plainAttrs_str PySem.F.slot_str_join PySem.F.type_str_join (md_join rfl) de_str (da_cons (de_lc (own := [("child", 1)]) rfl sc_law_words.nd (di_tup rfl (de_ixC (n := 2) rfl (dv (pv 0)))) (blkOk_by (own := [("child", 1)]) (N := sl_law_words) (sc := defScope s_law_words) (by decide +kernel)) (fun _ _ _ _ _ => (gw_name (i := 1) sc_law_words.nd rfl (Or.inl rfl) (by decide))) (fun _ _ _ _ _ => ts_nil) (fun _ _ _ _ _ => (de_call rfl c__law_words dfl_nil hr (by omega) rfl passL (da_cons (dv (pv 1)) da_nil)))) da_nil))))), fun ds S q h => ?_⟩)
  · obtain ⟨_, rfl, _⟩ := h
    rfl
  obtain ⟨u, rfl, hn, tx, sz, h⟩ := h
  cases u with
  | tx z =>
    rw [show shD (Tr.tx z) = .str z from rfl]
    walk_at "go"
    rw [show content (Tr.tx z) = z from by unfold content; show Txt.join "" [z] = z; rw [TL.join_eq]; rfl] at h
    exact h
  | el tag fd c =>
    rw [show shD (Tr.el tag fd c) = .tup [.str tag, .ptp ((srtSS fd).map ssD), .tup (shDL c)] from rfl, shDL_map]
    walk_at "go"
    rw [isi_tup]
    walk_at "go"
    have hs : 1 + sizeL c ≤ 900 := sz
    have lc : c.length ≤ sizeL c := by
      rw [← kidsAt_snd c 0, List.length_map]
      have := nums_len c 0
      rw [← kidsAt_fst, List.length_map] at this
      rw [kidsAt_snd]
      exact this
    refine ⟨by rw [List.length_map]; exact size6 (by omega), lc_go ?_⟩
    refine lc_map shD (fun u => Dt.str (content u)) trivial c (fun u hu kY kN hY => ?_) ?_
    · have dk := depth_kid hu
      have dn : 1 + depthL c < n + 1 := hn
      walk_at "go"
      refine ⟨u, rfl, by omega, fun z hz => tx z (textsL_mem hu z hz), by have := sizeL_mem hu; omega, hY⟩
    · have ok := content_ok tx sz
      rw [content_el] at ok h
      walk_at "go"
      refine ⟨c.map content, by rw [List.map_map]; rfl, ⟨?_, ok.s⟩, ?_⟩
      · have e : ((c.map content).map (·.length)).sum = (Txt.join "" (c.map content)).length := by
          show _ = (Txt.join "" (c.map content)).cps.size
          rw [← Array.length_toList, join_e, List.length_flatten, List.map_map, List.map_map, List.map_map]
          refine congrArg List.sum (List.map_congr_left fun x _ => ?_)
          exact Array.length_toList.symm
        rw [e]
        have := ok.l
        show _ + _ * 0 ≤ _
        omega
      · walk_at "go"
        exact h
theorem no_every {f : Addr} {fd : FuncData} (F : FunD K "_law_every" "_law_every" (defArgs s_law_every) (defBody s_law_every) (defScope s_law_every) [] [] f fd) : FnOk P w K mg base (L2.CX P w) 1 f fd ["tree", "above"] (spD K (cEvery 0)) := fn_no F sc_law_every fun ds S q e h => by
  obtain ⟨_, _, _, _, h, _⟩ := h
  cases h
theorem fm_len_take {α β : Type} (f : α → List β) (m : Nat) (L : List α) : ((L.take m).flatMap f).length ≤ (L.flatMap f).length := by
  conv => rhs; rw [← List.take_append_drop m L, List.flatMap_append, List.length_append]
  exact Nat.le_add_right _ _
theorem els_kids (i : Nat) (ab : Ab) : ∀ (c : List Tr) (k : Nat), ((preL k ab c).filter fun x => isEl x.2.1) = (kidsAt k c).flatMap fun x => els x.1 ab x.2
  | [], k => rfl
  | t :: r, k => by
    show ((pre k ab t ++ preL (k + size t) ab r).filter _) = els k ab t ++ (kidsAt (k + size t) r).flatMap _
    rw [List.filter_append, els_kids i ab r]
    rfl
theorem els_el (i : Nat) (ab : Ab) (tag : Str) (fd : Fd) (c : List Tr) : els i ab (.el tag fd c) = (i, .el tag fd c, ab) :: (kidsAt (i + 1) c).flatMap fun x => els x.1 (ab ++ [(i, .el tag fd c)]) x.2 := by
  rw [← els_kids 0]
  rfl
theorem els_len (i : Nat) (ab : Ab) (u : Tr) : (els i ab u).length ≤ size u := by
  have := List.length_filter_le (fun x : En => isEl x.2.1) (pre i ab u)
  rw [pre_len] at this
  exact this
theorem ok_every (n : Nat) (T : Tx K mg) (c__law_every : CalX P w K mg base (n + 1) "_law_every" (spD K (cEvery n)) []) {f : Addr} {fd : FuncData} (F : FunD K "_law_every" "_law_every" (defArgs s_law_every) (defBody s_law_every) (defScope s_law_every) [] [] f fd) : FnOk P w K mg base (L2.CX P w) (n + 2) f fd ["tree", "above"] (spD K (cEvery (n + 1))) := by
  refine dfn 4 F sc_law_every (fun ds S q e h => ?_) rfl (fun cdv A0 outer s H E e hr => ⟨_, (dss_cons (ds_if (de_tru rfl (de_callB (cd_isi (n := "str") rfl) (by rfl) T.b_isinstance (by decide +kernel) (da_cons (dv (pv 0)) (da_cons (de_c (d := .ty "str") (pe_bltn (v := .ty "str") (by rfl) T.b_str (by decide +kernel) rfl) (fun _ => rfl)) da_nil)))) (dss_one (ds_ret (de_lst da_nil))) dss_nil)
  (dss_cons (ds_set (i := 2) sc_law_every.nd rfl (Or.inl rfl) (de_lst (da_cons (de_tup (da_cons (dv (pv 0)) (da_cons (dv (pv 1)) da_nil))) da_nil)))
  (dss_cons (ds_for poX rfl (di_tup rfl (de_ixC (n := 2) rfl (dv (pv 0)))) (dg_name (i := 3) sc_law_every.nd rfl (Or.inl rfl)) (dss_one (ds_set (i := 2) sc_law_every.nd rfl (Or.inl rfl) (de_op (od_add rfl) (dv (pv 2)) (de_call rfl c__law_every dfl_nil hr (by omega) rfl paX (da_cons (dv (pv 3)) (da_cons (de_op (od_add rfl) (dv (pv 1)) (de_lst (da_cons (dv (pv 0)) da_nil))) da_nil)))))))
  (dss_one (ds_ret (dv (pv 2))))))), fun ds S q h => ?_⟩)
  · obtain ⟨_, _, _, rfl, _⟩ := h
    rfl
  obtain ⟨u, i, ab, rfl, hn, sz, hab, h⟩ := h
  cases u with
  | tx z =>
    rw [show shD (Tr.tx z) = .str z from rfl]
    walk_at "go"
    exact h
  | el tag fd c =>
    have hd0 : shD (Tr.el tag fd c) = .tup [.str tag, .ptp ((srtSS fd).map ssD), .tup (shDL c)] := rfl
    have hs : 1 + sizeL c ≤ 900 := sz
    have hab2 : ab.length + (1 + depthL c) ≤ 100 := hab
    have hln : (ab.map fun y : Nat × Tr => shD y.2).length + 1 ≤ sizeLine := by
      rw [List.length_map]
      have : (16777216 : Nat) ≤ sizeLine := Nat.le_of_ble_eq_true rfl
      omega
    rw [hd0, shDL_map]
    walk_at "go"
    rw [isi_tup]
    walk_at "go"
    have ec : c.map shD = (kidsAt (i + 1) c).map fun x => shD x.2 := by
      conv => lhs; rw [← kidsAt_snd c (i + 1), List.map_map]
      rfl
    have ew : shD (Tr.el tag fd c) = .tup [.str tag, .ptp ((srtSS fd).map ssD), .tup ((kidsAt (i + 1) c).map fun x => shD x.2)] := by rw [hd0, shDL_map, ec]
    rw [ec]
    refine forGo_at (fun x : Nat × Tr => shD x.2) (kidsAt (i + 1) c) (fun m δ S' => S' = S ∧ ∃ u3, δ = [some (.tup [.str tag, .ptp ((srtSS fd).map ssD), .tup ((kidsAt (i + 1) c).map fun x => shD x.2)]), some (.lst (ab.map fun y => shD y.2)), some (.lst (((i, Tr.el tag fd c, ab) :: ((kidsAt (i + 1) c).take m).flatMap fun x => els x.1 (ab ++ [(i, .el tag fd c)]) x.2).map evRow)), u3]) (fun m δ S' hI => trivial) (fun m x δ S' hx hI nx2 kk => ?_) (fun δ S' hI => ?_) ⟨rfl, none, by rw [List.take_zero, List.flatMap_nil]; show _ = [_, _, some (Dt.lst [.tup [shD (Tr.el tag fd c), _]]), _]; rw [ew]⟩
    · obtain ⟨rfl, u3, rfl⟩ := hI
      have hm := List.mem_of_getElem? hx
      have hc : x.2 ∈ c := by
        rw [← kidsAt_snd c (i + 1)]
        exact List.mem_map.mpr ⟨x, hm, rfl⟩
      have dk := depth_kid hc
      have dn : 1 + depthL c < n + 1 := hn
      have fl : ∀ m, (((kidsAt (i + 1) c).take m).flatMap fun x => els x.1 (ab ++ [(i, Tr.el tag fd c)]) x.2).length ≤ 900 := fun m => by
        have h1 := els_len i ab (Tr.el tag fd c)
        rw [els_el, List.length_cons] at h1
        have h2 := fm_len_take (fun x : Nat × Tr => els x.1 (ab ++ [(i, Tr.el tag fd c)]) x.2) m (kidsAt (i + 1) c)
        have h3 : size (Tr.el tag fd c) ≤ 900 := sz
        omega
      have f1 := fl m
      have sx := sizeL_mem hc
      have f2 := els_len x.1 (ab ++ [(i, Tr.el tag fd c)]) x.2
      walk_at "go"
      refine ⟨x.2, x.1, ab ++ [(i, Tr.el tag fd c)], by rw [List.map_append, ← ew]; rfl, by omega, by omega, by rw [List.length_append, List.length_singleton]; omega, ?_⟩
      walk_at "go"
      refine kk _ _ ⟨rfl, some (shD x.2), ?_⟩
      rw [List.take_add_one, hx, List.flatMap_append, ← List.map_append, ← List.cons_append]
      show _ = [_, _, some (Dt.lst (((i, Tr.el tag fd c, ab) :: _ ++ ([x].flatMap fun x => els x.1 (ab ++ [(i, Tr.el tag fd c)]) x.2)).map evRow)), _]
      rw [List.flatMap_cons, List.flatMap_nil, List.append_nil]
    · obtain ⟨rfl, u3, rfl⟩ := hI
      rw [els_el] at h
      walk_at "go"
      rw [List.take_length]
      exact h
end
end K19

open PySem PySem.Spec PyProof.Rows L2 Pr Dn LamX

namespace K19
open Mk
theorem rows_pairs (fd : Fd) : (srtSS fd).map ssD = (rowsD fd).map fun p => Dt.tup [keyD p.1, p.2] := by
  unfold rowsD Dn.encD
  rw [List.map_map]
  rfl
theorem rows_merge {fd : Fd} (nd : (fd.map (·.1)).Nodup) : kMerge [] (rowsD fd) = rowsD fd := by
  have p : (srtSS fd).Perm fd := List.mergeSort_perm _ _
  exact encD_merge ((p.map _).nodup_iff.mpr nd)
def labQ (fd : Fd) (u : Tr) : Bool := match aGet fd "id" with
  | none => false
  | some n => labB n u
structure TOk (T : Tr) : Prop where
  ok : TrOk T
  sz : size T ≤ 900
  dp : depth T < 8
def evD (T : Tr) : Dt := .lst ((els 0 [] T).map evRow)
theorem els_find (T : Tr) (p : Tr → Bool) (hp : ∀ z, p (.tx z) = false) : ((els 0 [] T).filter fun x => p x.2.1).head? = (pre 0 [] T).find? fun x => p x.2.1 := by
  unfold els
  rw [List.filter_filter, List.head?_filter]
  congr 1
  funext x
  obtain ⟨j, u, ab⟩ := x
  cases u with
  | tx z =>
    show (p (.tx z) && false) = p (.tx z)
    rw [hp]; rfl
  | el a b c => show (p (.el a b c) && true) = _; rw [Bool.and_true]
theorem els_mem {T : Tr} {x : En} (h : x ∈ els 0 [] T) : x ∈ pre 0 [] T ∧ ∃ tag fd c, x.2.1 = .el tag fd c := by
  have h := List.mem_filter.mp h
  refine ⟨h.1, ?_⟩
  cases e : x.2.1 with
  | tx z => have := h.2; rw [e] at this; cases this
  | el a b c => exact ⟨a, b, c, rfl⟩
def cNameL : DSp := fun ds S q _ => ∃ T j tag fd c ab, ds = [shD (.el tag fd c), evD T] ∧ TOk T ∧ (j, Tr.el tag fd c, ab) ∈ pre 0 [] T ∧ q (.str (nameF T tag fd (.el tag fd c))) S
abbrev lcx (P : Program) (w : World) (K : PySem.W.Frag) (mg : Str → Option Value) (base : Heap) (f : Addr) (cdv : Value) (A : Around) (outer : List Env) (s : Shared) (HE : Hp) (E : XK) : Cx := cxOf (L2.CX P w) P w K mg base sl_law_name "_law_name" (defScope s_law_name) f cdv A outer s HE E
def bd_l3 : List Stmt := (defBody s_law_name).drop 3
def bd_l4 : List Stmt := (defBody s_law_name).drop 4
def bd_l5 : List Stmt := (defBody s_law_name).drop 5
section
variable {P : Program} {w : World} {K : PySem.W.Frag} {mg : Str → Option Value} {base : Heap} {f : Addr} {cdv : Value} {A0 : Around} {outer : List Env} {s0 : Shared} {HE : Hp} {E : XK} {e : DX}
theorem label_filter (T : Tr) (fd : Fd) : labelF T fd = ((((els 0 [] T).filter fun x => labQ fd x.2.1).head?).map fun x => content x.2.1).getD "" := by
  rw [els_find T (labQ fd) (fun z => by unfold labQ; cases aGet fd "id" <;> rfl)]
  cases e1 : aGet fd "id" with
  | none =>
    have hq : (fun x : En => labQ fd x.2.1) = fun _ => false := by funext x; unfold labQ; rw [e1]
    have e : (pre 0 [] T).find? (fun _ : En => false) = none := List.find?_eq_none.mpr fun _ _ h => by cases h
    rw [hq, e]
    unfold labelF
    rw [e1]
    rfl
  | some n =>
    have hq : (fun x : En => labQ fd x.2.1) = fun x => labB n x.2.1 := by funext x; unfold labQ; rw [e1]
    rw [hq]
    unfold labelF
    rw [e1]
    show labelN T n = _
    unfold labelN
    cases (pre 0 [] T).find? (fun x => labB n x.2.1) <;> rfl
theorem depth_pre : ∀ {T : Tr} {i : Nat} {ab : Ab} {j : Nat} {u : Tr} {ab' : Ab}, (j, u, ab') ∈ pre i ab T → depth u ≤ depth T := by
  intro T i ab j u ab' h
  exact depth_sub h
theorem TOk.words {T : Tr} (ok : TOk T) {x : En} (hx : x ∈ pre 0 [] T) {S : Store} {q : DK} {e : DX} (h : q (.str (content x.2.1)) S) : cWords 8 [shD x.2.1] S q e := by
  obtain ⟨j, u, ab⟩ := x
  have h1 := pre_size hx
  have h2 := ok.sz
  have h3 := depth_pre hx
  have h4 := ok.dp
  exact ⟨u, rfl, by omega, ok.ok.tx.sub hx, by omega, h⟩
set_option hygiene false in
local macro_rules | `(tactic| walk_at "lb2") => `(tactic| (
  have hL := label_filter T0 fd
  have hM : ∀ x ∈ (els 0 [] T0).filter (fun x => labQ fd x.2.1), x ∈ pre 0 [] T0 := fun x hx => (els_mem (List.mem_filter.mp hx).1).1
  generalize (els 0 [] T0).filter (fun x => labQ fd x.2.1) = L at hL hM ⊢
  have st : StOk (labelF T0 fd) := by
    rw [hL]
    cases L with
    | nil => exact ⟨SOk.empty, Nat.zero_le _⟩
    | cons x r =>
      have hx := hM x List.mem_cons_self
      exact content_ok (ok.ok.tx.sub hx) (by have h1 : x.1 + size x.2.1 ≤ size T0 := pre_size hx; have := ok.sz; omega)
  have st1 := st.s
  have st2 := st.l
  cases L with
  | nil =>
    have hL : labelF T0 fd = "" := hL
    rw [hL] at h
    walk_at "go"
    rw [show (!(List.map (fun x : En => shD x.2.1) []).isEmpty) = false from rfl]
    walk_at "go"
    refine join_words SOk.empty (Nat.zero_le _) ?_
    walk_at "go"
    exact h
  | cons x r =>
    have hL : labelF T0 fd = content x.2.1 := hL
    rw [hL] at h st1 st2
    walk_at "go"
    rw [show (!(List.map (fun x : En => shD x.2.1) (x :: r)).isEmpty) = true from rfl, List.map_cons]
    walk_at "go"
    refine ok.words (hM x List.mem_cons_self) ?_
    walk_at "go"
    refine join_words st1 (by omega) ?_
    walk_at "go"
    exact h))
set_option hygiene false in
local macro_rules | `(tactic| walk_at "lab") => `(tactic| (
  refine ⟨by rw [List.length_map]; exact size6 (by have := els_len 0 [] T0; have := ok.sz; omega), lc_go ?_⟩
  refine lc_choose evRow (fun x => labQ fd x.2.1) (fun x => shD x.2.1) trivial _ (fun x hx kY kN hY hN => ?_) ?_
  · obtain ⟨hxm, tg, fx, cx, ex⟩ := els_mem hx
    obtain ⟨jx, ux, abx⟩ := x
    have ex : ux = .el tg fx cx := ex
    subst ex
    have ndx := (ok.ok.at_ _ _ _ _ _ hxm).1.nd
    rw [show evRow (jx, Tr.el tg fx cx, abx) = .tup [.tup [.str tg, .ptp ((srtSS fx).map ssD), .tup (shDL cx)], .lst (abx.map fun y => shD y.2)] from rfl]
    walk_at "go"
    refine mdec (fun t1 => ?_) (fun t1 => ?_)
    · walk_at "go"
      rw [rh]
      cases e1 : aGet fd "id" with
      | none =>
        walk_at "go"
        exact hN (by show labQ fd _ = false; unfold labQ; rw [e1])
      | some n =>
        rw [show (some n).isSome = true from rfl]
        have el : labQ fd (Tr.el tg fx cx) = decide (aGet fx "for" = some n) := by
          unfold labQ
          rw [e1]
          show (decide _ && decide _) = _
          rw [decide_eq_true t1, Bool.true_and]
        walk_at "go"
        refine ⟨rowsD fx, rows_pairs fx, ?_⟩
        rw [rows_merge ndx]
        walk_at "go"
        rw [rows_non ndx]
        refine ⟨_, (by rw [rg, e1]; rfl), ?_⟩
        cases e2 : aGet fx "for" with
        | none =>
          rw [e2] at el
          walk_at "go"
          exact hN (by rw [el]; rfl)
        | some z =>
          rw [e2] at el
          walk_at "go"
          refine mdec (fun t2 => ?_) (fun t2 => ?_)
          · walk_at "go"
            exact hY (by rw [el, t2]; simp)
          · walk_at "go"
            exact hN (by rw [el]; exact decide_eq_false fun k => t2 (by injection k))
    · walk_at "go"
      exact hN (by
        show labQ fd (Tr.el tg fx cx) = false
        unfold labQ
        cases aGet fd "id" with
        | none => rfl
        | some n => show (decide _ && decide _) = false; rw [decide_eq_false t1]; rfl)))
theorem bl_l5 (T : Tx K mg) (c__law_words : CalX P w K mg base 9 "_law_words" (spD K (cWords 8)) []) (hr : Room 10 (A0.deeper (envOfC "_law_name" (defScope s_law_name) s0.heap.objs.size f cdv))) :
    ∃ t, PSs (lcx P w K mg base f cdv A0 outer s0 HE E) bd_l5 (tDS K E e t) ∧ ∀ (D : DEnds) (S : Store) (T0 : Tr) (j : Nat) (tag : Str) (fd : Fd) (c : List Tr) (ab : Ab) (o : Option Str) (u4 u5 u6 u7 u8 : Option Dt), TOk T0 → (j, Tr.el tag fd c, ab) ∈ pre 0 [] T0 → (∀ z, o = some z → StOk z) → D.rt (.str (Txt.join " " (Txt.words (told4 T0 fd o)))) S →
      t D [some (shD (.el tag fd c)), some (evD T0), some (.dic (rowsD fd)), some (oS o), u4, u5, u6, u7, u8] S := by
  refine ⟨_, (dss_cons (ds_if (PW.pt (dt_or (dt_cmp od_is (dv (pv 3)) de_non) (pw_or1 (dt_cmp (od_eqN (hW_of hr)) (de_bm0 rfl is_tx PySem.F.plainAttrs_str PySem.F.slot_str_split PySem.F.type_str_split md_split0 (dv (pv 3))) (de_lst da_nil))))) (dss_cons (ds_setLc (i := 6) (own := [("one", 7), ("above", 8)]) rfl sc_law_name.nd rfl rfl (sw_true rfl rfl rfl (by decide +kernel)) (di_lst rfl (dv (pv 1))) (blkOk_by (own := [("one", 7), ("above", 8)]) (N := sl_law_name) (sc := defScope s_law_name) (by decide +kernel)) (fun _ _ _ _ _ => (gw_tup (n := 2) rfl rfl (gws_cons (gw_name (i := 7) sc_law_name.nd rfl (Or.inl rfl) (by decide)) (gws_cons (gw_name (i := 8) sc_law_name.nd rfl (Or.inl rfl) (by decide)) gws_nil)))) (fun _ _ _ _ _ => (ts_one (PW.pt (dt_and (dt_cmp (od_eq rfl (hU_of hr)) (de_ixC (n := 0) rfl (dv (pv 7))) de_str) (dt_and (dt_din (hu_of hr) de_str (dv (pv 2))) (pw_and1 (dt_cmp (od_eq rfl (hU_of hr)) (de_dget1 (hu_of hr) (de_callTy (cd_pairsPF rfl rfl) (by rfl) T.b_dict (by decide +kernel) (da_cons (de_ixC (n := 1) rfl (dv (pv 7))) da_nil)) de_str ⟨by rfl, by rfl, by rfl, by rfl⟩) (de_dget (hu_of hr) (dv (pv 2)) de_str (fun _ _ => rfl))))))))) (fun _ _ _ _ _ => (dv (pv 7))))
  (dss_one (ds_set (i := 3) sc_law_name.nd rfl (Or.inl rfl) (de_if (dt_cmp (od_neN (hW_of hr)) (dv (pv 6)) (de_lst da_nil)) (de_call rfl c__law_words dfl_nil hr (by decide) rfl paX (da_cons (de_ixC (n := 0) rfl (dv (pv 6))) da_nil)) de_str)))) dss_nil)
  (dss_one (ds_ret (de_bm rfl is_tx PySem.F.plainAttrs_str PySem.F.slot_str_join PySem.F.type_str_join (md_join rfl) de_str (da_cons (de_bm0 rfl is_tx PySem.F.plainAttrs_str PySem.F.slot_str_split PySem.F.type_str_split md_split0 (dv (pv 3))) da_nil))))), fun D S T0 j tag fd c ab o u4 u5 u6 u7 u8 ok hm ho h => ?_⟩
  have nd := (ok.ok.at_ _ _ _ _ _ hm).1.nd
  have rn := rows_non nd
  have rh := rows_has nd
  have rg := rows_get nd
  unfold evD
  cases o with
  | none =>
    rw [show told4 T0 fd none = labelF T0 fd from rfl] at h
    walk_at "go"
    walk_at "lab"
    walk_at "lb2"
  | some z =>
    obtain ⟨s1, s2⟩ := ho z rfl
    rw [show told4 T0 fd (some z) = if Txt.words z = [] then labelF T0 fd else z from rfl] at h
    walk_at "go"
    by_cases hw : Txt.words z = []
    · rw [if_pos hw] at h
      rw [hw, show (List.map Dt.str ([] : List Str)).isEmpty = true from rfl]
      walk_at "go"
      walk_at "lab"
      walk_at "lb2"
    · rw [if_neg hw] at h
      rw [show (List.map Dt.str (Txt.words z)).isEmpty = false from by
        obtain ⟨a, r, e⟩ := List.exists_cons_of_ne_nil hw
        rw [e]
        rfl]
      walk_at "go"
      refine join_words s1 (by omega) ?_
      walk_at "go"
      exact h
end
end K19

open PySem PySem.Spec PyProof.Rows L2 Pr Dn LamX

namespace K19
open Mk
theorem shD_el (tag : Str) (fd : Fd) (c : List Tr) : shD (.el tag fd c) = .tup [.str tag, .ptp ((srtSS fd).map ssD), .tup (shDL c)] := rfl
section
variable {P : Program} {w : World} {K : PySem.W.Frag} {mg : Str → Option Value} {base : Heap} {f : Addr} {cdv : Value} {A0 : Around} {outer : List Env} {s0 : Shared} {HE : Hp} {E : XK} {e : DX}
theorem bl_l4 (T : Tx K mg) (c__law_words : CalX P w K mg base 9 "_law_words" (spD K (cWords 8)) []) (c__law_role : CalX P w K mg base 1 "_law_role" (spD K cRoleL) []) (hr : Room 10 (A0.deeper (envOfC "_law_name" (defScope s_law_name) s0.heap.objs.size f cdv))) :
    ∃ t, PSs (lcx P w K mg base f cdv A0 outer s0 HE E) bd_l4 (tDS K E e t) ∧ ∀ (D : DEnds) (S : Store) (T0 : Tr) (j : Nat) (tag : Str) (fd : Fd) (c : List Tr) (ab : Ab) (o : Option Str) (u4 u5 u6 u7 u8 : Option Dt), TOk T0 → (j, Tr.el tag fd c, ab) ∈ pre 0 [] T0 → (∀ z, o = some z → StOk z) → D.rt (.str (Txt.join " " (Txt.words (told4 T0 fd (told3 tag fd (.el tag fd c) o))))) S →
      t D [some (shD (.el tag fd c)), some (evD T0), some (.dic (rowsD fd)), some (oS o), u4, u5, u6, u7, u8] S := by
  obtain ⟨t5, p_l5, h_l5⟩ := bl_l5 (f := f) (cdv := cdv) (A0 := A0) (outer := outer) (s0 := s0) (HE := HE) (E := E) (e := e) T c__law_words hr
  refine ⟨_, (dss_cons (ds_if (PW.pt (dt_and (dt_cmp od_is (dv (pv 3)) de_non) (pw_and1 (dt_cmp (od_notin rfl (hW_of hr)) (de_call rfl c__law_role dfl_nil hr (by decide) rfl paX (da_cons (de_ixC (n := 0) rfl (dv (pv 0))) (da_cons (dv (pv 2)) da_nil))) (de_lst (da_cons de_str (da_cons de_str (da_cons de_str da_nil)))))))) (dss_one (ds_set (i := 3) sc_law_name.nd rfl (Or.inl rfl) (de_call rfl c__law_words dfl_nil hr (by decide) rfl paX (da_cons (dv (pv 0)) da_nil)))) dss_nil)
  p_l5), fun D S T0 j tag fd c ab o u4 u5 u6 u7 u8 ok hm ho h => ?_⟩
  have at_ := ok.ok.at_ _ _ _ _ _ hm
  have hcon : StOk (content (Tr.el tag fd c)) := content_ok (ok.ok.tx.sub hm) (by have h1 : j + size (Tr.el tag fd c) ≤ size T0 := pre_size hm; have := ok.sz; omega)
  cases o with
  | some z =>
    walk_at "go"
    exact h_l5 D S T0 j tag fd c ab (some z) u4 u5 u6 u7 u8 ok hm ho h
  | none =>
    rw [show told3 tag fd (.el tag fd c) none = if noOwn (roleF tag fd) = true then none else some (content (.el tag fd c)) from rfl] at h
    rw [shD_el]
    walk_at "go"
    refine ⟨tag, fd, rfl, at_.1.nd, at_.2, ?_⟩
    cases hro : roleF tag fd with
    | none =>
      rw [hro, show noOwn none = false from rfl, if_neg (by decide)] at h
      walk_at "go"
      refine ⟨⟨rfl, rfl, by decide, by decide⟩, ?_⟩
      refine ⟨true, rfl, ?_⟩
      walk_at "go"
      refine ok.words hm ?_
      walk_at "go"
      exact h_l5 D S T0 j tag fd c ab (some (content (Tr.el tag fd c))) u4 u5 u6 u7 u8 ok hm (fun y hy => by injection hy with hy; rw [← hy]; exact hcon) h
    | some r =>
      rw [hro] at h
      walk_at "go"
      refine nin_lst ["field", "mark", "image"] rfl ?_
      have en : noOwn (some r) = decide (r ∈ (["field", "mark", "image"] : List Str)) := by
        refine Bool.eq_iff_iff.mpr ?_
        show (decide _ || decide _ || decide _) = true ↔ _
        simp [or_assoc]
      rw [en] at h
      walk_at "go"
      refine mdecN (fun h1 => ?_) (fun h1 => ?_)
      · rw [if_neg (by rw [decide_eq_false h1]; decide)] at h
        walk_at "go"
        refine ok.words hm ?_
        walk_at "go"
        exact h_l5 D S T0 j tag fd c ab (some (content (Tr.el tag fd c))) u4 u5 u6 u7 u8 ok hm (fun y hy => by injection hy with hy; rw [← hy]; exact hcon) h
      · rw [if_pos (by rw [decide_eq_true h1])] at h
        walk_at "go"
        exact h_l5 D S T0 j tag fd c ab none u4 u5 u6 u7 u8 ok hm nofun h
theorem bl_l3 (T : Tx K mg) (c__law_words : CalX P w K mg base 9 "_law_words" (spD K (cWords 8)) []) (c__law_role : CalX P w K mg base 1 "_law_role" (spD K cRoleL) []) (hr : Room 10 (A0.deeper (envOfC "_law_name" (defScope s_law_name) s0.heap.objs.size f cdv))) :
    ∃ t, PSs (lcx P w K mg base f cdv A0 outer s0 HE E) bd_l3 (tDS K E e t) ∧ ∀ (D : DEnds) (S : Store) (T0 : Tr) (j : Nat) (tag : Str) (fd : Fd) (c : List Tr) (ab : Ab) (o : Option Str) (u4 u5 u6 u7 u8 : Option Dt), TOk T0 → (j, Tr.el tag fd c, ab) ∈ pre 0 [] T0 → (∀ z, o = some z → StOk z) → D.rt (.str (Txt.join " " (Txt.words (told4 T0 fd (told3 tag fd (.el tag fd c) (told2 fd o)))))) S →
      t D [some (shD (.el tag fd c)), some (evD T0), some (.dic (rowsD fd)), some (oS o), u4, u5, u6, u7, u8] S := by
  obtain ⟨t4, p_l4, h_l4⟩ := bl_l4 (f := f) (cdv := cdv) (A0 := A0) (outer := outer) (s0 := s0) (HE := HE) (E := E) (e := e) T c__law_words c__law_role hr
  refine ⟨_, (dss_cons (ds_for poX rfl (di_lst rfl (de_lst (da_cons de_str (da_cons de_str da_nil)))) (dg_name (i := 5) sc_law_name.nd rfl (Or.inl rfl)) (dss_one (ds_set (i := 3) sc_law_name.nd rfl (Or.inl rfl) (de_if (dt_cmp od_is (dv (pv 3)) de_non) (de_dget1 (hu_of hr) (dv (pv 2)) (dv (pv 5)) ⟨by rfl, by rfl, by rfl, by rfl⟩) (dv (pv 3))))))
  p_l4), fun D S T0 j tag fd c ab o u4 u5 u6 u7 u8 ok hm ho h => ?_⟩
  have ok1 := (ok.ok.at_ _ _ _ _ _ hm).1
  have rn := rows_non ok1.nd
  cases o with
  | some z =>
    walk_at "go"
    exact h_l4 D S T0 j tag fd c ab (some z) _ _ _ _ _ ok hm ho h
  | none =>
    walk_at "go"
    rw [rn]
    cases e1 : aGet fd "alt" with
    | some z =>
      rw [show told2 fd none = some z from by unfold told2; rw [e1]] at h
      walk_at "go"
      exact h_l4 D S T0 j tag fd c ab (some z) _ _ _ _ _ ok hm (fun y hy => by injection hy with hy; rw [← hy]; exact ok1.st e1) h
    | none =>
      rw [show told2 fd none = aGet fd "title" from by unfold told2; rw [e1]] at h
      walk_at "go"
      rw [rn]
      exact h_l4 D S T0 j tag fd c ab (aGet fd "title") _ _ _ _ _ ok hm (fun y hy => ok1.st hy) h
end
section
variable {P : Program} {w : World} {K : PySem.W.Frag} {mg : Str → Option Value} {base : Heap}
theorem ok_nameL (T : Tx K mg) (c__law_words : CalX P w K mg base 9 "_law_words" (spD K (cWords 8)) []) (c__law_role : CalX P w K mg base 1 "_law_role" (spD K cRoleL) []) {f : Addr} {fd : FuncData} (F : FunD K "_law_name" "_law_name" (defArgs s_law_name) (defBody s_law_name) (defScope s_law_name) [] [] f fd) : FnOk P w K mg base (L2.CX P w) 11 f fd ["tree", "every"] (spD K cNameL) := by
  refine dfn 9 F sc_law_name (fun ds S q e h => ?_) rfl (fun cdv A0 outer s H E e hr => ?_)
  · obtain ⟨_, _, _, _, _, _, rfl, _⟩ := h
    rfl
  obtain ⟨t3, p_l3, h_l3⟩ := bl_l3 (f := f) (cdv := cdv) (A0 := A0) (outer := outer) (s0 := s) (HE := H) (E := E) (e := e) T c__law_words c__law_role hr
  refine ⟨_, (dss_cons (ds_set (i := 2) sc_law_name.nd rfl (Or.inr rfl) (de_callTy (cd_pairsPF rfl rfl) (by rfl) T.b_dict (by decide +kernel) (da_cons (de_ixC (n := 1) rfl (dv (pv 0))) da_nil)))
  (dss_cons (ds_set (i := 3) sc_law_name.nd rfl (Or.inl rfl) (de_dget1 (hu_of hr) (dv (pv 2)) de_str ⟨by rfl, by rfl, by rfl, by rfl⟩))
  (dss_cons (ds_if (PW.pt (dt_and (dt_cmp od_is (dv (pv 3)) de_non) (pw_and1 (dt_din (hu_of hr) de_str (dv (pv 2)))))) (dss_cons (ds_setLc (i := 4) (own := [("one", 7), ("above", 8)]) rfl sc_law_name.nd rfl rfl (sw_true rfl rfl rfl (by decide +kernel)) (di_lst rfl (dv (pv 1))) (blkOk_by (own := [("one", 7), ("above", 8)]) (N := sl_law_name) (sc := defScope s_law_name) (by decide +kernel)) (fun _ _ _ _ _ => (gw_tup (n := 2) rfl rfl (gws_cons (gw_name (i := 7) sc_law_name.nd rfl (Or.inl rfl) (by decide)) (gws_cons (gw_name (i := 8) sc_law_name.nd rfl (Or.inl rfl) (by decide)) gws_nil)))) (fun _ _ _ _ _ => (ts_one (dt_cmp (od_eq rfl (hU_of hr)) (de_dget1 (hu_of hr) (de_callTy (cd_pairsPF rfl rfl) (by rfl) T.b_dict (by decide +kernel) (da_cons (de_ixC (n := 1) rfl (dv (pv 7))) da_nil)) de_str ⟨by rfl, by rfl, by rfl, by rfl⟩) (de_dget (hu_of hr) (dv (pv 2)) de_str (fun _ _ => rfl))))) (fun _ _ _ _ _ => (dv (pv 7))))
  (dss_one (ds_set (i := 3) sc_law_name.nd rfl (Or.inl rfl) (de_if (dt_cmp (od_neN (hW_of hr)) (dv (pv 4)) (de_lst da_nil)) (de_call rfl c__law_words dfl_nil hr (by decide) rfl paX (da_cons (de_ixC (n := 0) rfl (dv (pv 4))) da_nil)) de_non)))) dss_nil)
  p_l3))), fun ds S q h => ?_⟩
  obtain ⟨T0, j, tag, fd, c, ab, rfl, ok, hm, h⟩ := h
  have ok1 := (ok.ok.at_ _ _ _ _ _ hm).1
  have rn := rows_non ok1.nd
  have rh := rows_has ok1.nd
  have rg := rows_get ok1.nd
  have go := fun o u4 u7 u8 (ho : ∀ z, o = some z → StOk z) (eo : told1 T0 fd = o) => h_l3 { nx := fun x S => q Dt.non S, rt := q } S T0 j tag fd c ab o u4 none none u7 u8 ok hm ho (by
    unfold nameF at h
    rw [eo] at h
    exact h)
  rw [shD_el] at go ⊢
  unfold evD at go ⊢
  walk_at "go"
  refine ⟨rowsD fd, rows_pairs fd, ?_⟩
  rw [rows_merge ok1.nd]
  walk_at "go"
  rw [rn]
  cases e1 : aGet fd "label" with
  | some z =>
    walk_at "go"
    exact go (some z) none none none (fun y hy => by injection hy with hy; rw [← hy]; exact ok1.st e1) (by unfold told1; rw [e1])
  | none =>
    walk_at "go"
    rw [rh]
    cases e2 : aGet fd "labelledby" with
    | none =>
      rw [show (none : Option Str).isSome = false from rfl]
      walk_at "go"
      exact go none none none none nofun (by unfold told1; rw [e1, e2])
    | some l =>
      rw [show (some l).isSome = true from rfl]
      walk_at "go"
      refine ⟨by rw [List.length_map]; exact size6 (by have := els_len 0 [] T0; have := ok.sz; omega), lc_go ?_⟩
      refine lc_choose evRow (fun x => idIs l x.2.1) (fun x => shD x.2.1) trivial _ (fun x hx kY kN hY hN => ?_) ?_
      · obtain ⟨hxm, tg, fx, cx, ex⟩ := els_mem hx
        obtain ⟨jx, ux, abx⟩ := x
        have ex : ux = .el tg fx cx := ex
        subst ex
        have ndx := (ok.ok.at_ _ _ _ _ _ hxm).1.nd
        rw [show evRow (jx, Tr.el tg fx cx, abx) = .tup [.tup [.str tg, .ptp ((srtSS fx).map ssD), .tup (shDL cx)], .lst (abx.map fun y => shD y.2)] from rfl]
        walk_at "go"
        refine ⟨rowsD fx, rows_pairs fx, ?_⟩
        rw [rows_merge ndx]
        walk_at "go"
        rw [rows_non ndx]
        refine ⟨_, (by rw [rg, e2]; rfl), ?_⟩
        cases e3 : aGet fx "id" with
        | none =>
          walk_at "go"
          exact hN (by show decide _ = false; rw [e3]; rfl)
        | some z =>
          walk_at "go"
          refine mdec (fun t2 => ?_) (fun t2 => ?_)
          · walk_at "go"
            exact hY (by show decide _ = true; rw [e3, t2]; simp)
          · walk_at "go"
            exact hN (by show decide _ = false; rw [e3]; exact decide_eq_false fun k => t2 (by injection k))
      · have hL := els_find T0 (idIs l) (fun z => rfl)
        have hM : ∀ x ∈ (els 0 [] T0).filter (fun x => idIs l x.2.1), x ∈ pre 0 [] T0 := fun x hx => (els_mem (List.mem_filter.mp hx).1).1
        have et : told1 T0 fd = (byId T0 l).map fun x => content x.2.1 := by unfold told1; rw [e1, e2]
        rw [show byId T0 l = _ from hL.symm] at et
        generalize (els 0 [] T0).filter (fun x => idIs l x.2.1) = L at et hM ⊢
        cases L with
        | nil =>
          walk_at "go"
          rw [show (!(List.map (fun x : En => shD x.2.1) []).isEmpty) = false from rfl]
          walk_at "go"
          exact go none _ none none nofun et
        | cons x r =>
          have hx := hM x List.mem_cons_self
          walk_at "go"
          rw [show (!(List.map (fun x : En => shD x.2.1) (x :: r)).isEmpty) = true from rfl, List.map_cons]
          walk_at "go"
          refine ok.words hx ?_
          walk_at "go"
          exact go (some (content x.2.1)) _ none none (fun y hy => by injection hy with hy; rw [← hy]; exact content_ok (ok.ok.tx.sub hx) (by have h1 : x.1 + size x.2.1 ≤ size T0 := pre_size hx; have := ok.sz; omega)) et
end
end K19

open PySem PySem.Spec PyProof.Rows L2 Pr Dn LamX

namespace K19
open Mk
abbrev lwx (P : Program) (w : World) (K : PySem.W.Frag) (mg : Str → Option Value) (base : Heap) (f : Addr) (cdv : Value) (A : Around) (outer : List Env) (s : Shared) (HE : Hp) (E : XK) : Cx := cxOf (L2.CX P w) P w K mg base sl_law "law" (defScope s_law) f cdv A outer s HE E
def bd_s0 : List Stmt := stFor (nth (defBody s_law) 0)
def bd_f0 : List Stmt := stFor (nth bd_s0 3)
def bd_f2 : List Stmt := bd_f0.drop 2
def bd_f3 : List Stmt := bd_f0.drop 3
def bd_f5 : List Stmt := bd_f0.drop 5
def bd_g0 : List Stmt := stThen (nth bd_f0 6)
def bd_g1 : List Stmt := bd_g0.drop 1
def bd_g2 : List Stmt := bd_g0.drop 2
def bd_s4 : List Stmt := bd_s0.drop 4
def bd_tail : List Stmt := (defBody s_law).drop 1
structure Tbs (K : PySem.W.Frag) (S : Store) : Prop where
  a : S (He.cT K ("Document", some "place_before")).2 = some .gtb
  b : S (pSh K) = some .gtb
  c : S (He.cT K ("focus_order", none)).2 = some .gtb
  d : S (He.cT K ("order_told", none)).2 = some .gtb
theorem Tbs.le {K : PySem.W.Frag} {S S' : Store} (h : Tbs K S) (le : Le S S') : Tbs K S' := ⟨le _ _ h.a, le _ _ h.b, le _ _ h.c, le _ _ h.d⟩
structure LS (K : PySem.W.Frag) (S : Store) (dc : Addr) (A : List Tri) (T : Tr) (pd pf : Addr) (R : List (Nat × Str × Str)) (Q : List (Int × Nat × Nat)) : Prop where
  d : Doc K S dc A T
  ok : TOk T
  t : Tbs K S
  hd : S pd = some (.lst (R.map oRowD))
  hf : S pf = some (.lst (Q.map fRowD))
  ne : pd ≠ pf
  /-- the document stands aside of both lists -/
  S0 : ∃ S0, Doc K S0 dc A T ∧ Tbs K S0 ∧ S0 pd = none ∧ S0 pf = none ∧ Le S0 S
  lr : R.length ≤ 900
  lq : Q.length ≤ 900
section
variable {K : PySem.W.Frag} {S S' : Store} {dc : Addr} {A : List Tri} {T : Tr} {pd pf : Addr} {R : List (Nat × Str × Str)} {Q : List (Int × Nat × Nat)}
theorem LS.le (h : LS K S dc A T pd pf R Q) (le : Le S S') : LS K S' dc A T pd pf R Q := by
  obtain ⟨S0, a, b, c, d, e⟩ := h.S0
  exact ⟨h.d.le le, h.ok, h.t.le le, le _ _ h.hd, le _ _ h.hf, h.ne, ⟨S0, a, b, c, d, e.trans le⟩, h.lr, h.lq⟩
theorem LS.due (h : LS K S dc A T pd pf R Q) {R' : List (Nat × Str × Str)} (l : R'.length ≤ 900) : LS K (sput S pd (.lst (R'.map oRowD))) dc A T pd pf R' Q := by
  obtain ⟨S0, a, b, c, d, e⟩ := h.S0
  have le : Le S0 (sput S pd (.lst (R'.map oRowD))) := fun x y hx => by
    rw [sput_ne (fun z => by rw [z, c] at hx; cases hx)]
    exact e x y hx
  exact ⟨a.le le, h.ok, b.le le, sput_same, by rw [sput_ne h.ne.symm]; exact h.hf, h.ne, ⟨S0, a, b, c, d, le⟩, l, h.lq⟩
theorem LS.foc (h : LS K S dc A T pd pf R Q) {Q' : List (Int × Nat × Nat)} (l : Q'.length ≤ 900) : LS K (sput S pf (.lst (Q'.map fRowD))) dc A T pd pf R Q' := by
  obtain ⟨S0, a, b, c, d, e⟩ := h.S0
  have le : Le S0 (sput S pf (.lst (Q'.map fRowD))) := fun x y hx => by
    rw [sput_ne (fun z => by rw [z, d] at hx; cases hx)]
    exact e x y hx
  exact ⟨a.le le, h.ok, b.le le, by rw [sput_ne h.ne]; exact h.hd, sput_same, h.ne, ⟨S0, a, b, c, d, le⟩, h.lr, l⟩
end
@[reducible] def sl (a0 a1 : Option Dt) (dc : Addr) (T : Tr) (nd : Option Dt) (pd pf : Addr) (H : List (Int × Str)) (r : List (Option Dt)) : DS := a0 :: a1 :: some (.ref dc) :: some (evD T) :: nd :: some (.ref pd) :: some (.ref pf) :: some (.lst (H.map hRowD)) :: some (.int (gapF H).1) :: some (.int (gapF H).2) :: r
def R14 (r : List (Option Dt)) : Prop := ∃ b0 b1 b2 b3 b4 b5 b6 b7 b8 b9 b10 b11 b12 b13, r = [b0, b1, b2, b3, b4, b5, b6, b7, b8, b9, b10, b11, b12, b13]
structure EnvL (P : Program) (w : World) (K : PySem.W.Frag) (mg : Str → Option Value) (base : Heap) : Prop where
  m_Node_all_nodes : MetX P w K mg base 1 (He.ga K "Node") "all_nodes" (spD K (cAll K)) []
  m_Node_is_text : MetX P w K mg base 1 (He.ga K "Node") "is_text" (spD K (cIsText K)) []
  m_Node_shown : MetX P w K mg base 33 (He.ga K "Node") "shown" (spD K (cShown K 8)) []
  m_Document_node_of : MetX P w K mg base 1 (He.ga K "Document") "node_of" (spD K (cNodeOf K)) []
  c_role_of : CalX P w K mg base 2 "role_of" (spD K (cRole K)) []
  c_is_left_out : CalX P w K mg base 2 "is_left_out" (spD K (cLeft K)) []
  c_name_of : CalX P w K mg base 4 "name_of" (spD K (cNam K)) []
  c_label_for : CalX P w K mg base 3 "label_for" (spD K (cLabel K)) []
  c_order_told : CalX P w K mg base 6 "order_told" (spD K (cOrder K)) []
  c_outline : CalX P w K mg base 5 "outline" (spD K (cOut K)) []
  c_focus_order : CalX P w K mg base 7 "focus_order" (spD K (cFoc K)) []
  c_headings : CalX P w K mg base 5 "headings" (spD K (cHeads K)) []
  c_parse_markup : CalX P w K mg base 10 "parse_markup" (spD K (cParse K)) []
  c__law_roll : CalX P w K mg base 1 "_law_roll" (spD K Dn.cRoll) []
  c__law_markup : CalX P w K mg base 6 "_law_markup" (spD K (cMk 4)) []
  c__law_role : CalX P w K mg base 1 "_law_role" (spD K cRoleL) []
  c__law_words : CalX P w K mg base 9 "_law_words" (spD K (cWords 8)) []
  c__law_every : CalX P w K mg base 9 "_law_every" (spD K (cEvery 8)) []
  c__law_name : CalX P w K mg base 11 "_law_name" (spD K cNameL) []
  c__law_order : CalX P w K mg base 1 "_law_order" (spD K cOrderL) []
theorem name_ok {T : Tr} (ok : TOk T) {j : Nat} {tag : Str} {fd : Fd} {c : List Tr} {ab : Ab} (hm : (j, Tr.el tag fd c, ab) ∈ pre 0 [] T) {S : Store} {q : DK} {e : DX} (h : q (.str (nameF T tag fd (.el tag fd c))) S) : cNameL [shD (.el tag fd c), evD T] S q e := ⟨T, j, tag, fd, c, ab, rfl, ok, hm, h⟩
def hAdd (T : Tr) (tag : Str) (fd : Fd) (c : List Tr) : List (Int × Str) := if roleF tag fd = some ("heading" : Str) then [(lvlF tag, nameF T tag fd (.el tag fd c))] else []
section
variable {P : Program} {w : World} {K : PySem.W.Frag} {mg : Str → Option Value} {base : Heap} {f : Addr} {cdv : Value} {A0 : Around} {outer : List Env} {s0 : Shared} {HE : Hp} {E : XK} {e : DX}
theorem bl_g2 (T : Tx K mg) (V : EnvL P w K mg base) (hr : Room 44 (A0.deeper (envOfC "law" (defScope s_law) s0.heap.objs.size f cdv))) :
    ∃ t, PSs (lwx P w K mg base f cdv A0 outer s0 HE E) bd_g2 (tDS K E e t) ∧ ∀ (D : DEnds) (S : Store) (a0 a1 : Option Dt) (dc : Addr) (A : List Tri) (T0 : Tr) (nd : Option Dt) (pd pf : Addr) (R : List (Nat × Str × Str)) (Q : List (Int × Nat × Nat)) (H : List (Int × Str)) (j : Nat) (tag : Str) (fd : Fd) (c : List Tr) (ab : Ab) (hid lab : Dt) (lev b9 b10 b11 b12 b13 : Option Dt), LS K S dc A T0 pd pf R Q → (j, Tr.el tag fd c, ab) ∈ pre 0 [] T0 → H.length ≤ 900 →
      (∀ r, R14 r → D.nx (sl a0 a1 dc T0 nd pd pf (H ++ hAdd T0 tag fd c) r) S) →
      t D (sl a0 a1 dc T0 nd pd pf H [some (shD (.el tag fd c)), some (.lst (ab.map fun y => shD y.2)), some (.ref (ad A j)), some (.dic (rowsD fd)), some (oS (roleF tag fd)), some hid, some lab, some (oInt (orderF fd)), lev, b9, b10, b11, b12, b13]) S := by
  have c__law_name := V.c__law_name
  refine ⟨_, (dss_one (ds_if (dt_cmp (od_eq rfl (hU_of hr)) (dv (pv 14)) de_str) (dss_cons (ds_set (i := 18) sc_law.nd rfl (Or.inl rfl) (de_if (dt_cmp (od_eq rfl (hU_of hr)) (de_ixC (n := 0) rfl (dv (pv 10))) de_str) de_int de_int))
  (dss_one (ds_par3 (i := 7) (j := 8) (l := 9) (by rfl) sc_law.nd rfl rfl rfl (by decide) (by decide) (by decide) rfl rfl rfl (da_cons (de_op (od_add rfl) (dv (pv 7)) (de_lst (da_cons (de_tup (da_cons (dv (pv 18)) (da_cons (de_call rfl c__law_name dfl_nil hr (by decide) rfl paX (da_cons (dv (pv 10)) (da_cons (dv (pv 3)) da_nil))) da_nil))) da_nil))) (da_cons (de_op (od_add rfl) (dv (pv 8)) (de_callTy cd_int (by rfl) T.b_int (by decide +kernel) (da_cons (de_cmp od_gt (dv (pv 18)) (de_op (od_add rfl) (dv (pv 9)) de_int)) da_nil))) (da_cons (dv (pv 18)) da_nil))) (by rfl)))) dss_nil)), fun D S a0 a1 dc A T0 nd pd pf R Q H j tag fd c ab hid lab lev b9 b10 b11 b12 b13 ls hm hH nx => ?_⟩
  cases hro : roleF tag fd with
  | none =>
    rw [show hAdd T0 tag fd c = [] from by unfold hAdd; rw [hro, if_neg (by decide)], List.append_nil] at nx
    walk_at "go"
    exact nx _ ⟨_, _, _, _, _, _, _, _, _, _, _, _, _, _, rfl⟩
  | some r =>
    walk_at "go"
    refine mdec (fun h1 => ?_) (fun h1 => ?_)
    · rw [show hAdd T0 tag fd c = [(lvlF tag, nameF T0 tag fd (.el tag fd c))] from by unfold hAdd; rw [hro, if_pos (by rw [h1])]] at nx
      have fin : ∀ (lv : Int), lv = lvlF tag → D.nx (a0 :: a1 :: some (.ref dc) :: some (evD T0) :: nd :: some (.ref pd) :: some (.ref pf) :: some (.lst (H.map hRowD ++ [.tup [.int lv, .str (nameF T0 tag fd (.el tag fd c))]])) :: some (.int ((gapF H).1 + if decide ((gapF H).2 + 1 < lv) = true then 1 else 0)) :: some (.int lv) :: [some (shD (.el tag fd c)), some (.lst (ab.map fun y => shD y.2)), some (.ref (ad A j)), some (.dic (rowsD fd)), some (oS (some r)), some hid, some lab, some (oInt (orderF fd)), some (.int lv), b9, b10, b11, b12, b13]) S := fun lv e => by
        subst e
        have nx := nx [some (shD (.el tag fd c)), some (.lst (ab.map fun y => shD y.2)), some (.ref (ad A j)), some (.dic (rowsD fd)), some (oS (some r)), some hid, some lab, some (oInt (orderF fd)), some (.int (lvlF tag)), b9, b10, b11, b12, b13] ⟨_, _, _, _, _, _, _, _, _, _, _, _, _, _, rfl⟩
        unfold sl at nx
        rw [List.map_append, gapF_snoc] at nx
        simp only [decide_eq_true_eq]
        exact nx
      have lH : (H.map hRowD).length + 1 ≤ sizeLine := by
        rw [List.length_map]
        have : (16777216 : Nat) ≤ sizeLine := Nat.le_of_ble_eq_true rfl
        omega
      rw [shD_el] at fin ⊢
      walk_at "go"
      refine mdec (fun h2 => ?_) (fun h2 => ?_)
      · have fin := fin 2 (if_pos h2).symm
        walk_at "go"
        refine name_ok ls.ok hm ?_
        walk_at "go"
        exact fin
      · have fin := fin 1 (if_neg h2).symm
        walk_at "go"
        refine name_ok ls.ok hm ?_
        walk_at "go"
        exact fin
    · rw [show hAdd T0 tag fd c = [] from by unfold hAdd; rw [hro, if_neg (fun k => h1 (by injection k))], List.append_nil] at nx
      walk_at "go"
      exact nx _ ⟨_, _, _, _, _, _, _, _, _, _, _, _, _, _, rfl⟩
def fAdd (fd : Fd) (tag : Str) (j : Nat) (Q : List (Int × Nat × Nat)) : List (Int × Nat × Nat) := if (aGet fd "off").isSome = true then [] else if focB tag fd = true then [(focO fd, Q.length, j)] else []
theorem bl_g1 (T : Tx K mg) (V : EnvL P w K mg base) (hr : Room 44 (A0.deeper (envOfC "law" (defScope s_law) s0.heap.objs.size f cdv))) :
    ∃ t, PSs (lwx P w K mg base f cdv A0 outer s0 HE E) bd_g1 (tDS K E e t) ∧ ∀ (D : DEnds) (S : Store) (a0 a1 : Option Dt) (dc : Addr) (A : List Tri) (T0 : Tr) (nd : Option Dt) (pd pf : Addr) (R : List (Nat × Str × Str)) (Q : List (Int × Nat × Nat)) (H : List (Int × Str)) (j : Nat) (tag : Str) (fd : Fd) (c : List Tr) (ab : Ab) (hid lab : Dt) (lev b9 b10 b11 b12 b13 : Option Dt), LS K S dc A T0 pd pf R Q → (j, Tr.el tag fd c, ab) ∈ pre 0 [] T0 → H.length ≤ 900 → Q.length + 1 ≤ 900 →
      (∀ r S', R14 r → LS K S' dc A T0 pd pf R (Q ++ fAdd fd tag j Q) → D.nx (sl a0 a1 dc T0 nd pd pf (H ++ hAdd T0 tag fd c) r) S') →
      t D (sl a0 a1 dc T0 nd pd pf H [some (shD (.el tag fd c)), some (.lst (ab.map fun y => shD y.2)), some (.ref (ad A j)), some (.dic (rowsD fd)), some (oS (roleF tag fd)), some hid, some lab, some (oInt (orderF fd)), lev, b9, b10, b11, b12, b13]) S := by
  obtain ⟨t2, p_g2, h_g2⟩ := bl_g2 (f := f) (cdv := cdv) (A0 := A0) (outer := outer) (s0 := s0) (HE := HE) (E := E) (e := e) T V hr
  refine ⟨_, (dss_cons (ds_if (PW.pt (dt_and (dt_dnotin (hu_of hr) de_str (dv (pv 13))) (pw_and1 (PW.pt (dt_or (PW.pt (dt_and (dt_cmp od_is (dv (pv 17)) de_non) (pw_and1 (dt_cmp (od_in rfl (hW_of hr)) (dv (pv 14)) (de_lst (da_cons de_str (da_cons de_str (da_cons de_str (da_cons de_str da_nil))))))))) (pw_or1 (PW.pt (dt_and (dt_cmp od_isNot (dv (pv 17)) de_non) (pw_and1 (dt_cmp od_ge (dv (pv 17)) de_int)))))))))) (dss_one (ds_expr (de_bm rfl is_ls PySem.F.plainAttrs_list PySem.F.slot_list_append PySem.F.type_list_append md_append (dv (pv 6)) (da_cons (de_tup (da_cons (de_if (PW.pt (dt_and (dt_cmp od_isNot (dv (pv 17)) de_non) (pw_and1 (dt_cmp od_gt (dv (pv 17)) de_int)))) (dv (pv 17)) de_int) (da_cons (de_callB (cd_len rfl) (by rfl) T.b_len (by decide +kernel) (da_cons (dv (pv 6)) da_nil)) (da_cons (de_fld rfl (fd_Node_number T) (dv (pv 12))) da_nil)))) da_nil)))) dss_nil)
  p_g2), fun D S a0 a1 dc A T0 nd pd pf R Q H j tag fd c ab hid lab lev b9 b10 b11 b12 b13 ls hm hH hQ nx => ?_⟩
  have at_ := ls.ok.ok.at_ _ _ _ _ _ hm
  have rh := rows_has at_.1.nd
  have hf := ls.hf
  obtain ⟨tc, cc, vv, kk, q1, _⟩ := ls.d.el hm
  have no : fAdd fd tag j Q = [] → t2 D (sl a0 a1 dc T0 nd pd pf H [some (shD (.el tag fd c)), some (.lst (ab.map fun y => shD y.2)), some (.ref (ad A j)), some (.dic (rowsD fd)), some (oS (roleF tag fd)), some hid, some lab, some (oInt (orderF fd)), lev, b9, b10, b11, b12, b13]) S := fun e0 => h_g2 D S a0 a1 dc A T0 nd pd pf R Q H j tag fd c ab hid lab lev b9 b10 b11 b12 b13 ls hm hH fun r hr => nx r S hr (by rw [e0, List.append_nil]; exact ls)
  have yes : fAdd fd tag j Q = [(focO fd, Q.length, j)] → t2 D (sl a0 a1 dc T0 nd pd pf H [some (shD (.el tag fd c)), some (.lst (ab.map fun y => shD y.2)), some (.ref (ad A j)), some (.dic (rowsD fd)), some (oS (roleF tag fd)), some hid, some lab, some (oInt (orderF fd)), lev, b9, b10, b11, b12, b13]) (sput S pf (.lst (Q.map fRowD ++ [.tup [.int (focO fd), .int ((Q.map fRowD).length : Nat), .int (j : Nat)]]))) := fun e0 => by
    have ls2 := ls.foc (Q' := Q ++ [(focO fd, Q.length, j)]) (by rw [List.length_append]; exact hQ)
    rw [List.map_append] at ls2
    rw [List.length_map]
    exact h_g2 D _ a0 a1 dc A T0 nd pd pf R _ H j tag fd c ab hid lab lev b9 b10 b11 b12 b13 ls2 hm hH fun r hr => nx r _ hr (by rw [e0]; exact ls2)
  have lQ : (Q.map fRowD).length < sizeLine := by
    rw [List.length_map]
    exact size6 (by omega)
  walk_at "go"
  rw [rh]
  cases e1 : aGet fd "off" with
  | some z =>
    rw [show (!(some z).isSome) = false from rfl]
    walk_at "go"
    exact no (by unfold fAdd; rw [e1, if_pos (by rfl)])
  | none =>
    have ef : fAdd fd tag j Q = if focB tag fd = true then [(focO fd, Q.length, j)] else [] := by unfold fAdd; rw [e1, if_neg (by decide)]
    rw [show (!(none : Option Str).isSome) = true from rfl]
    walk_at "go"
    cases ho : orderF fd with
    | none =>
      rw [ho] at no yes
      have eb : focB tag fd = focR (roleF tag fd) := by unfold focB; rw [ho]
      have eo : focO fd = 1000000 := by unfold focO; rw [ho]
      walk_at "go"
      cases hro : roleF tag fd with
      | none =>
        rw [hro] at no eb
        walk_at "go"
        refine ⟨⟨rfl, rfl, by decide, by decide⟩, ?_⟩
        refine ⟨false, rfl, ?_⟩
        walk_at "go"
        exact no (by rw [ef, eb]; rfl)
      | some r =>
        rw [hro] at no yes eb
        have eb : focB tag fd = decide (r ∈ (["link", "button", "field", "mark"] : List Str)) := eb
        walk_at "go"
        refine in_lst ["link", "button", "field", "mark"] rfl ?_
        walk_at "go"
        refine mdec (fun h1 => ?_) (fun h1 => ?_)
        · have yes := yes (by rw [ef, eb, if_pos (decide_eq_true h1)])
          rw [eo] at yes
          walk_at "go"
          exact yes
        · walk_at "go"
          exact no (by rw [ef, eb, decide_eq_false h1]; rfl)
    | some k =>
      rw [ho] at no yes
      have eb : focB tag fd = decide (0 ≤ k) := by unfold focB; rw [ho]
      have eo : focO fd = if k = 0 then 1000000 else k := by unfold focO; rw [ho]
      walk_at "go"
      refine mdec (fun h1 => ?_) (fun h1 => ?_)
      · have yes := yes (by rw [ef, eb, if_pos (decide_eq_true h1)])
        rw [eo] at yes
        walk_at "go"
        refine mdec (fun h2 => ?_) (fun h2 => ?_)
        · rw [if_neg (by omega)] at yes
          walk_at "go"
          exact yes
        · rw [if_pos (by omega)] at yes
          walk_at "go"
          exact yes
      · walk_at "go"
        exact no (by rw [ef, eb, decide_eq_false h1]; rfl)
end
end K19

open PySem PySem.Spec PyProof.Rows L2 Pr Dn LamX

namespace K19
open Mk
theorem anc_mem {T : Tr} {j : Nat} {u : Tr} {ab : Ab} (h : (j, u, ab) ∈ pre 0 [] T) {y : Nat × Tr} (hy : y ∈ ab) : ∃ tag fd c ab', y.2 = Tr.el tag fd c ∧ (y.1, Tr.el tag fd c, ab') ∈ pre 0 [] T := by
  obtain ⟨b, e, hb⟩ := pre_anc h
  have e : ab = b := e
  subst e
  obtain ⟨b1, b2, e2⟩ := List.append_of_mem hy
  obtain ⟨h1, tag, fd, c, h2⟩ := hb b1 y b2 e2
  rw [h2] at h1
  exact ⟨tag, fd, c, _, h2, h1⟩
theorem left_hid {T : Tr} (ok : TrOk T) {j : Nat} {tag : Str} {fd : Fd} {c : List Tr} {ab : Ab} (hm : (j, Tr.el tag fd c, ab) ∈ pre 0 [] T) : leftOut ab (.el tag fd c) = ((ab ++ [(j, Tr.el tag fd c)]).any fun y => hidB y.2) := by
  have e : ∀ {j tag fd c ab}, (j, Tr.el tag fd c, ab) ∈ pre 0 [] T → loB (.el tag fd c) = hidB (.el tag fd c) := fun {j tag fd c ab} h => by
    have := (ok.at_ _ _ _ _ _ h).2
    show (decide _ || _) = _
    rw [decide_eq_false fun k => this (by
      simp only [List.mem_cons, List.not_mem_nil, or_false] at k
      rcases k with rfl | rfl <;> decide), Bool.false_or]
    rfl
  unfold leftOut
  rw [List.any_append, List.any_cons, List.any_nil, Bool.or_false, e hm]
  congr 1
  refine Bool.eq_iff_iff.mpr ?_
  rw [List.any_eq_true, List.any_eq_true]
  refine exists_congr fun y => and_congr_right fun hy => ?_
  obtain ⟨t', f', c', ab', e1, h1⟩ := anc_mem hm hy
  rw [e1, e h1]
def oAdd (T : Tr) (tag : Str) (fd : Fd) (c : List Tr) (ab : Ab) : List (Nat × Str × Str) := match roleF tag fd with
  | none => []
  | some r => [(level ab, r, nameF T tag fd (.el tag fd c))]
section
variable {P : Program} {w : World} {K : PySem.W.Frag} {mg : Str → Option Value} {base : Heap} {f : Addr} {cdv : Value} {A0 : Around} {outer : List Env} {s0 : Shared} {HE : Hp} {E : XK} {e : DX}
theorem bl_g0 (T : Tx K mg) (V : EnvL P w K mg base) (hr : Room 44 (A0.deeper (envOfC "law" (defScope s_law) s0.heap.objs.size f cdv))) :
    ∃ t, PSs (lwx P w K mg base f cdv A0 outer s0 HE E) bd_g0 (tDS K E e t) ∧ ∀ (D : DEnds) (S : Store) (a0 a1 : Option Dt) (dc : Addr) (A : List Tri) (T0 : Tr) (nd : Option Dt) (pd pf : Addr) (R : List (Nat × Str × Str)) (Q : List (Int × Nat × Nat)) (H : List (Int × Str)) (j : Nat) (tag : Str) (fd : Fd) (c : List Tr) (ab : Ab) (hid lab : Dt) (lev b9 b10 b11 b12 b13 : Option Dt), LS K S dc A T0 pd pf R Q → (j, Tr.el tag fd c, ab) ∈ pre 0 [] T0 → H.length ≤ 900 → Q.length + 1 ≤ 900 → R.length + 1 ≤ 900 →
      (∀ r S', R14 r → LS K S' dc A T0 pd pf (R ++ oAdd T0 tag fd c ab) (Q ++ fAdd fd tag j Q) → D.nx (sl a0 a1 dc T0 nd pd pf (H ++ hAdd T0 tag fd c) r) S') →
      t D (sl a0 a1 dc T0 nd pd pf H [some (shD (.el tag fd c)), some (.lst (ab.map fun y => shD y.2)), some (.ref (ad A j)), some (.dic (rowsD fd)), some (oS (roleF tag fd)), some hid, some lab, some (oInt (orderF fd)), lev, b9, b10, b11, b12, b13]) S := by
  obtain ⟨t1, p_g1, h_g1⟩ := bl_g1 (f := f) (cdv := cdv) (A0 := A0) (outer := outer) (s0 := s0) (HE := HE) (E := E) (e := e) T V hr
  have c__law_role := V.c__law_role
  have c__law_name := V.c__law_name
  refine ⟨_, (dss_cons (ds_if (dt_cmp od_isNot (dv (pv 14)) de_non) (dss_one (ds_expr (de_bm rfl is_ls PySem.F.plainAttrs_list PySem.F.slot_list_append PySem.F.type_list_append md_append (dv (pv 5)) (da_cons (de_tup (da_cons (de_callB (cd_len rfl) (by rfl) T.b_len (by decide +kernel) (da_cons (de_lc (own := [("one", 20)]) rfl sc_law.nd (di_lst rfl (dv (pv 11))) (blkOk_by (own := [("one", 20)]) (N := sl_law) (sc := defScope s_law) (by decide +kernel)) (fun _ _ _ _ _ => (gw_name (i := 20) sc_law.nd rfl (Or.inl rfl) (by decide))) (fun _ _ _ _ _ => (ts_one (dt_cmp od_isNot (de_call rfl c__law_role dfl_nil hr (by decide) rfl passL (da_cons (de_ixC (n := 0) rfl (dv (pv 20))) (da_cons (de_callTy (cd_pairsPF rfl rfl) (by rfl) T.b_dict (by decide +kernel) (da_cons (de_ixC (n := 1) rfl (dv (pv 20))) da_nil)) da_nil))) de_non))) (fun _ _ _ _ _ => (dv (pv 20)))) da_nil)) (da_cons (dv (pv 14)) (da_cons (de_call rfl c__law_name dfl_nil hr (by decide) rfl paX (da_cons (dv (pv 10)) (da_cons (dv (pv 3)) da_nil))) da_nil)))) da_nil)))) dss_nil)
  p_g1), fun D S a0 a1 dc A T0 nd pd pf R Q H j tag fd c ab hid lab lev b9 b10 b11 b12 b13 ls hm hH hQ hR nx => ?_⟩
  have hd := ls.hd
  cases hro : roleF tag fd with
  | none =>
    have eo : oAdd T0 tag fd c ab = [] := by unfold oAdd; rw [hro]
    rw [eo, List.append_nil] at nx
    have := h_g1 D S a0 a1 dc A T0 nd pd pf R Q H j tag fd c ab hid lab lev b9 b10 b11 b12 b13 ls hm hH hQ nx
    rw [hro] at this
    walk_at "go"
    exact this
  | some r =>
    have eo : oAdd T0 tag fd c ab = [(level ab, r, nameF T0 tag fd (.el tag fd c))] := by unfold oAdd; rw [hro]
    rw [eo] at nx
    have lab9 : ab.length ≤ 900 := by
      have h1 : ab.length + 0 ≤ 0 + j := pre_ab hm
      have h2 := pre_lt hm
      have h3 := ls.ok.sz
      omega
    have lR : (R.map oRowD).length < sizeLine := by
      rw [List.length_map]
      exact size6 (by omega)
    walk_at "go"
    refine lc_choose (fun y : Nat × Tr => shD y.2) (fun y => rB y.2) (fun y => shD y.2) trivial _ (fun y hy kY kN hY hN => ?_) ?_
    · obtain ⟨t', f', c', ab', ey, hy'⟩ := anc_mem hm hy
      have at' := ls.ok.ok.at_ _ _ _ _ _ hy'
      rw [ey, shD_el] at hY ⊢
      walk_at "go"
      refine ⟨rowsD f', rows_pairs f', ?_⟩
      rw [rows_merge at'.1.nd]
      walk_at "go"
      refine ⟨t', f', rfl, at'.1.nd, at'.2, ?_⟩
      have erb : rB y.2 = (roleF t' f').isSome := by rw [ey]; rfl
      cases hr2 : roleF t' f' with
      | none =>
        walk_at "go"
        exact hN (by rw [erb, hr2]; rfl)
      | some r2 =>
        walk_at "go"
        exact hY (by show rB (Tr.el t' f' c') = true; show (roleF t' f').isSome = true; rw [hr2]; rfl)
    · walk_at "go"
      refine name_ok ls.ok hm ?_
      have ls2 := ls.due (R' := R ++ [(level ab, r, nameF T0 tag fd (.el tag fd c))]) (by rw [List.length_append]; exact hR)
      rw [List.map_append] at ls2
      have := h_g1 D _ a0 a1 dc A T0 nd pd pf _ Q H j tag fd c ab hid lab lev b9 b10 b11 b12 b13 ls2 hm hH hQ nx
      rw [hro] at this
      walk_at "go"
      rw [List.length_map]
      exact this
end
end K19

open PySem PySem.Spec PyProof.Rows L2 Pr Dn LamX

namespace K19
open Mk
theorem ptp_dat {l : List Dt} {n : Nat} (h : ∀ d ∈ l, DatN d n) : DatN (.ptp l) (n + 1) := ⟨areDat_of fun d hd => (h d hd).dat, Nat.succ_le_succ (pys_dep fun d hd => (h d hd).dep)⟩
theorem _root_.Dn.DatN.mono {d : Dt} {n m : Nat} (h : DatN d n) (hm : n ≤ m) : DatN d m := ⟨h.dat, Nat.le_trans h.dep hm⟩
mutual
theorem shD_dat : ∀ u : Tr, DatN (shD u) (2 * depth u + 1)
  | .tx z => ⟨rfl, Nat.zero_le _⟩
  | .el tag fd c => by
    have hk := shDL_dat c
    show DatN (.tup [.str tag, .ptp ((srtSS fd).map ssD), .tup (shDL c)]) (2 * (1 + depthL c) + 1)
    refine (DatN.tup (n := 2 * (1 + depthL c)) fun d hd => ?_)
    simp only [List.mem_cons, List.not_mem_nil, or_false] at hd
    rcases hd with rfl | rfl | rfl
    · exact ⟨rfl, Nat.zero_le _⟩
    · refine (ptp_dat (n := 1) fun d hd => ?_).mono (by omega)
      obtain ⟨p, _, rfl⟩ := List.mem_map.mp hd
      exact DatN.tup (n := 0) fun d hd => by
        simp only [List.mem_cons, List.not_mem_nil, or_false] at hd
        rcases hd with rfl | rfl <;> exact ⟨rfl, Nat.le_refl _⟩
    · exact (DatN.tup (n := 2 * depthL c + 1) hk).mono (by omega)
theorem shDL_dat : ∀ c : List Tr, ∀ d ∈ shDL c, DatN d (2 * depthL c + 1)
  | [], d, hd => by cases hd
  | t :: r, d, hd => by
    have h1 : depth t ≤ max (depth t) (depthL r) := Nat.le_max_left _ _
    have h2 : depthL r ≤ max (depth t) (depthL r) := Nat.le_max_right _ _
    show DatN d (2 * max (depth t) (depthL r) + 1)
    rcases List.mem_cons.mp hd with rfl | hd
    · exact (shD_dat t).mono (by omega)
    · exact (shDL_dat r d hd).mono (by omega)
end
section
variable {P : Program} {w : World} {K : PySem.W.Frag} {mg : Str → Option Value} {base : Heap} {f : Addr} {cdv : Value} {A0 : Around} {outer : List Env} {s0 : Shared} {HE : Hp} {E : XK} {e : DX}
/-- where a turn ends -/
def Nxt (K : PySem.W.Frag) (D : DEnds) (a0 a1 : Option Dt) (dc : Addr) (A : List Tri) (T0 : Tr) (nd : Option Dt) (pd pf : Addr) (R : List (Nat × Str × Str)) (Q : List (Int × Nat × Nat)) (H : List (Int × Str)) (j : Nat) (tag : Str) (fd : Fd) (c : List Tr) (ab : Ab) : Prop :=
  (leftOut ab (.el tag fd c) = true → ∀ r S', R14 r → LS K S' dc A T0 pd pf R Q → D.nx (sl a0 a1 dc T0 nd pd pf H r) S') ∧
  (leftOut ab (.el tag fd c) = false → ∀ r S', R14 r → LS K S' dc A T0 pd pf (R ++ oAdd T0 tag fd c ab) (Q ++ fAdd fd tag j Q) → D.nx (sl a0 a1 dc T0 nd pd pf (H ++ hAdd T0 tag fd c) r) S')
theorem bl_f5 (T : Tx K mg) (V : EnvL P w K mg base) (hr : Room 44 (A0.deeper (envOfC "law" (defScope s_law) s0.heap.objs.size f cdv))) :
    ∃ t, PSs (lwx P w K mg base f cdv A0 outer s0 HE E) bd_f5 (tDS K E e t) ∧ ∀ (D : DEnds) (S : Store) (a0 a1 : Option Dt) (dc : Addr) (A : List Tri) (T0 : Tr) (nd : Option Dt) (pd pf : Addr) (R : List (Nat × Str × Str)) (Q : List (Int × Nat × Nat)) (H : List (Int × Str)) (j : Nat) (tag : Str) (fd : Fd) (c : List Tr) (ab : Ab) (lab : Dt) (b7 lev b9 b10 b11 b12 b13 : Option Dt), LS K S dc A T0 pd pf R Q → (j, Tr.el tag fd c, ab) ∈ pre 0 [] T0 → H.length ≤ 900 → Q.length + 1 ≤ 900 → R.length + 1 ≤ 900 →
      Nxt K D a0 a1 dc A T0 nd pd pf R Q H j tag fd c ab →
      t D (sl a0 a1 dc T0 nd pd pf H [some (shD (.el tag fd c)), some (.lst (ab.map fun y => shD y.2)), some (.ref (ad A j)), some (.dic (rowsD fd)), some (oS (roleF tag fd)), some (.bl (leftOut ab (.el tag fd c))), some lab, b7, lev, b9, b10, b11, b12, b13]) S := by
  obtain ⟨t0, p_g0, h_g0⟩ := bl_g0 (f := f) (cdv := cdv) (A0 := A0) (outer := outer) (s0 := s0) (HE := HE) (E := E) (e := e) T V hr
  have c__law_order := V.c__law_order
  refine ⟨_, (dss_cons (ds_set (i := 17) sc_law.nd rfl (Or.inl rfl) (de_call rfl c__law_order dfl_nil hr (by decide) rfl paX (da_cons (dv (pv 13)) da_nil)))
  (dss_one (ds_if (dt_not (de_tru rfl (dv (pv 15)))) p_g0 dss_nil))), fun D S a0 a1 dc A T0 nd pd pf R Q H j tag fd c ab lab b7 lev b9 b10 b11 b12 b13 ls hm hH hQ hR nx => ?_⟩
  have at_ := ls.ok.ok.at_ _ _ _ _ _ hm
  walk_at "go"
  refine ⟨fd, rfl, at_.1, ?_⟩
  cases hl : leftOut ab (.el tag fd c) with
  | true =>
    walk_at "go"
    exact nx.1 hl _ S ⟨_, _, _, _, _, _, _, _, _, _, _, _, _, _, rfl⟩ ls
  | false =>
    walk_at "go"
    exact h_g0 D S a0 a1 dc A T0 nd pd pf R Q H j tag fd c ab (.bl false) lab lev b9 b10 b11 b12 b13 ls hm hH hQ hR (nx.2 hl)
set_option hygiene false in
local macro_rules | `(tactic| walk_at "lab") => `(tactic| (
  refine lc_choose evRow (fun x => labQ fd x.2.1) (fun x => shD x.2.1) trivial _ (fun x hx kY kN hY hN => ?_) ?_
  · obtain ⟨hxm, tg, fx, cx, ex⟩ := els_mem hx
    obtain ⟨jx, ux, abx⟩ := x
    have ex : ux = .el tg fx cx := ex
    subst ex
    have ndx := (ls.ok.ok.at_ _ _ _ _ _ hxm).1.nd
    rw [show evRow (jx, Tr.el tg fx cx, abx) = .tup [.tup [.str tg, .ptp ((srtSS fx).map ssD), .tup (shDL cx)], .lst (abx.map fun y => shD y.2)] from rfl]
    walk_at "go"
    refine mdec (fun t1 => ?_) (fun t1 => ?_)
    · walk_at "go"
      rw [rh]
      cases e1 : aGet fd "id" with
      | none =>
        walk_at "go"
        exact hN (by show labQ fd _ = false; unfold labQ; rw [e1])
      | some n =>
        rw [show (some n).isSome = true from rfl]
        have el : labQ fd (Tr.el tg fx cx) = decide (aGet fx "for" = some n) := by
          unfold labQ
          rw [e1]
          show (decide _ && decide _) = _
          rw [decide_eq_true t1, Bool.true_and]
        walk_at "go"
        refine ⟨rowsD fx, rows_pairs fx, ?_⟩
        rw [rows_merge ndx]
        walk_at "go"
        rw [rows_non ndx]
        refine ⟨_, (by rw [rg, e1]; rfl), ?_⟩
        cases e2 : aGet fx "for" with
        | none =>
          rw [e2] at el
          walk_at "go"
          exact hN (by rw [el]; rfl)
        | some z =>
          rw [e2] at el
          walk_at "go"
          refine mdec (fun t2 => ?_) (fun t2 => ?_)
          · walk_at "go"
            exact hY (by rw [el, t2]; simp)
          · walk_at "go"
            exact hN (by rw [el]; exact decide_eq_false fun k => t2 (by injection k))
    · walk_at "go"
      exact hN (by
        show labQ fd (Tr.el tg fx cx) = false
        unfold labQ
        cases aGet fd "id" with
        | none => rfl
        | some n => show (decide _ && decide _) = false; rw [decide_eq_false t1]; rfl)))
theorem bl_f3 (T : Tx K mg) (V : EnvL P w K mg base) (hr : Room 44 (A0.deeper (envOfC "law" (defScope s_law) s0.heap.objs.size f cdv))) :
    ∃ t, PSs (lwx P w K mg base f cdv A0 outer s0 HE E) bd_f3 (tDS K E e t) ∧ ∀ (D : DEnds) (S : Store) (a0 a1 : Option Dt) (dc : Addr) (A : List Tri) (T0 : Tr) (nd : Option Dt) (pd pf : Addr) (R : List (Nat × Str × Str)) (Q : List (Int × Nat × Nat)) (H : List (Int × Str)) (j : Nat) (tag : Str) (fd : Fd) (c : List Tr) (ab : Ab) (b6 b7 lev b9 b10 b11 b12 b13 : Option Dt), LS K S dc A T0 pd pf R Q → (j, Tr.el tag fd c, ab) ∈ pre 0 [] T0 → H.length ≤ 900 → Q.length + 1 ≤ 900 → R.length + 1 ≤ 900 →
      Nxt K D a0 a1 dc A T0 nd pd pf R Q H j tag fd c ab →
      t D (sl a0 a1 dc T0 nd pd pf H [some (shD (.el tag fd c)), some (.lst (ab.map fun y => shD y.2)), some (.ref (ad A j)), some (.dic (rowsD fd)), some (oS (roleF tag fd)), some (.bl (leftOut ab (.el tag fd c))), b6, b7, lev, b9, b10, b11, b12, b13]) S := by
  obtain ⟨t5, p_f5, h_f5⟩ := bl_f5 (f := f) (cdv := cdv) (A0 := A0) (outer := outer) (s0 := s0) (HE := HE) (E := E) (e := e) T V hr
  have c_label_for := V.c_label_for
  have c__law_words := V.c__law_words
  refine ⟨_, (dss_cons (ds_setLc (i := 16) (own := [("one", 20), ("more", 21)]) rfl sc_law.nd rfl rfl (sw_true rfl rfl rfl (by decide +kernel)) (di_lst rfl (dv (pv 3))) (blkOk_by (own := [("one", 20), ("more", 21)]) (N := sl_law) (sc := defScope s_law) (by decide +kernel)) (fun _ _ _ _ _ => (gw_tup (n := 2) rfl rfl (gws_cons (gw_name (i := 20) sc_law.nd rfl (Or.inl rfl) (by decide)) (gws_cons (gw_name (i := 21) sc_law.nd rfl (Or.inl rfl) (by decide)) gws_nil)))) (fun _ _ _ _ _ => (ts_one (PW.pt (dt_and (dt_cmp (od_eq rfl (hU_of hr)) (de_ixC (n := 0) rfl (dv (pv 20))) de_str) (dt_and (dt_din (hu_of hr) de_str (dv (pv 13))) (pw_and1 (dt_cmp (od_eq rfl (hU_of hr)) (de_dget1 (hu_of hr) (de_callTy (cd_pairsPF rfl rfl) (by rfl) T.b_dict (by decide +kernel) (da_cons (de_ixC (n := 1) rfl (dv (pv 20))) da_nil)) de_str ⟨by rfl, by rfl, by rfl, by rfl⟩) (de_dget (hu_of hr) (dv (pv 13)) de_str (fun _ _ => rfl))))))))) (fun _ _ _ _ _ => (dv (pv 20))))
  (dss_cons (ds_if (dt_cmp (od_ne rfl (hU_of hr)) (de_call rfl c_label_for dfl_nil hr (by decide) rfl paX (da_cons (dv (pv 12)) (da_cons (dv (pv 2)) da_nil))) (de_if (dt_cmp (od_neN (hW_of hr)) (dv (pv 16)) (de_lst da_nil)) (de_call rfl c__law_words dfl_nil hr (by decide) rfl paX (da_cons (de_ixC (n := 0) rfl (dv (pv 16))) da_nil)) de_str)) (dss_one (ds_ret de_bl)) dss_nil)
  p_f5)), fun D S a0 a1 dc A T0 nd pd pf R Q H j tag fd c ab b6 b7 lev b9 b10 b11 b12 b13 ls hm hH hQ hR nx => ?_⟩
  have at_ := ls.ok.ok.at_ _ _ _ _ _ hm
  have rn := rows_non at_.1.nd
  have rh := rows_has at_.1.nd
  have rg := rows_get at_.1.nd
  unfold sl evD
  walk_at "go"
  refine ⟨by rw [List.length_map]; exact size6 (by have := els_len 0 [] T0; have := ls.ok.sz; omega), lc_go ?_⟩
  walk_at "lab"
  have hL := label_filter T0 fd
  have hM : ∀ x ∈ (els 0 [] T0).filter (fun x => labQ fd x.2.1), x ∈ pre 0 [] T0 := fun x hx => (els_mem (List.mem_filter.mp hx).1).1
  generalize (els 0 [] T0).filter (fun x => labQ fd x.2.1) = L at hL hM ⊢
  walk_at "go"
  refine ⟨dc, A, T0, j, tag, fd, c, ab, rfl, ⟨ls.d, hm, ls.ok.ok⟩, fun S1 le1 => ?_⟩
  have ls1 := ls.le le1
  have fin := fun lab => h_f5 D S1 a0 a1 dc A T0 nd pd pf R Q H j tag fd c ab lab b7 lev b9 b10 b11 b12 b13 ls1 hm hH hQ hR nx
  unfold sl evD at fin
  walk_at "go"
  cases L with
  | nil =>
    have hL : labelF T0 fd = "" := hL
    rw [hL]
    walk_at "go"
    rw [show (!(List.map (fun x : En => shD x.2.1) []).isEmpty) = false from rfl]
    walk_at "go"
    exact fin _
  | cons x r =>
    have hL : labelF T0 fd = content x.2.1 := hL
    rw [hL]
    walk_at "go"
    rw [show (!(List.map (fun x : En => shD x.2.1) (x :: r)).isEmpty) = true from rfl, List.map_cons]
    walk_at "go"
    refine ls.ok.words (hM x List.mem_cons_self) ?_
    walk_at "go"
    rw [← List.map_cons (f := fun x : En => shD x.2.1)]
    exact fin _
end
end K19

open PySem PySem.Spec PyProof.Rows L2 Pr Dn LamX

namespace K19
open Mk
theorem oS_dat (o : Option Str) : DatN (oS o) 0 := by cases o <;> exact ⟨rfl, Nat.zero_le _⟩
theorem oInt_dat (o : Option Int) : DatN (oInt o) 0 := by cases o <;> exact ⟨rfl, Nat.zero_le _⟩
theorem any_fl {α β : Type} (p : α → Bool) (g : α → β) : ∀ l : List α, (!(List.map g (l.filter p)).isEmpty) = l.any p
  | [] => rfl
  | a :: l => by
    rw [List.filter_cons, List.any_cons]
    cases h : p a with
    | true => rw [if_pos rfl]; rfl
    | false => rw [if_neg (by decide), Bool.false_or]; exact any_fl p g l
section
variable {P : Program} {w : World} {K : PySem.W.Frag} {mg : Str → Option Value} {base : Heap} {f : Addr} {cdv : Value} {A0 : Around} {outer : List Env} {s0 : Shared} {HE : Hp} {E : XK} {e : DX}
theorem bl_f2 (T : Tx K mg) (V : EnvL P w K mg base) (hr : Room 44 (A0.deeper (envOfC "law" (defScope s_law) s0.heap.objs.size f cdv))) :
    ∃ t, PSs (lwx P w K mg base f cdv A0 outer s0 HE E) bd_f2 (tDS K E e t) ∧ ∀ (D : DEnds) (S : Store) (a0 a1 : Option Dt) (dc : Addr) (A : List Tri) (T0 : Tr) (nd : Option Dt) (pd pf : Addr) (R : List (Nat × Str × Str)) (Q : List (Int × Nat × Nat)) (H : List (Int × Str)) (j : Nat) (tag : Str) (fd : Fd) (c : List Tr) (ab : Ab) (b6 b7 lev b9 b10 b11 b12 b13 : Option Dt), LS K S dc A T0 pd pf R Q → (j, Tr.el tag fd c, ab) ∈ pre 0 [] T0 → H.length ≤ 900 → Q.length + 1 ≤ 900 → R.length + 1 ≤ 900 →
      Nxt K D a0 a1 dc A T0 nd pd pf R Q H j tag fd c ab →
      t D (sl a0 a1 dc T0 nd pd pf H [some (shD (.el tag fd c)), some (.lst (ab.map fun y => shD y.2)), some (.ref (ad A j)), some (.dic (rowsD fd)), some (oS (roleF tag fd)), some (.bl (leftOut ab (.el tag fd c))), b6, b7, lev, b9, b10, b11, b12, b13]) S := by
  obtain ⟨t3, p_f3, h_f3⟩ := bl_f3 (f := f) (cdv := cdv) (A0 := A0) (outer := outer) (s0 := s0) (HE := HE) (E := E) (e := e) T V hr
  have m_Node_shown := V.m_Node_shown
  have c_role_of := V.c_role_of
  have c_is_left_out := V.c_is_left_out
  have c_name_of := V.c_name_of
  have c__law_name := V.c__law_name
  have c_order_told := V.c_order_told
  have c__law_order := V.c__law_order
  refine ⟨_, (dss_cons (ds_if (PW.pt (dt_or (dt_cmp (od_ne rfl (hU_of hr)) (de_meth0 (nm := nm_Node) rfl m_Node_shown (by decide +kernel) dfl_nil hr (by decide) paX (dv (pv 12))) (dv (pv 10))) (dt_or (dt_cmp (od_ne rfl (hU_of hr)) (de_call rfl c_role_of dfl_nil hr (by decide) rfl paX (da_cons (dv (pv 12)) da_nil)) (dv (pv 14))) (dt_or (dt_cmp (od_ne rfl (hU_of hr)) (de_call rfl c_is_left_out dfl_nil hr (by decide) rfl paX (da_cons (dv (pv 12)) da_nil)) (dv (pv 15))) (dt_or (dt_cmp (od_ne rfl (hU_of hr)) (de_call rfl c_name_of dfl_nil hr (by decide) rfl paX (da_cons (dv (pv 12)) (da_cons (dv (pv 2)) da_nil))) (de_call rfl c__law_name dfl_nil hr (by decide) rfl paX (da_cons (dv (pv 10)) (da_cons (dv (pv 3)) da_nil)))) (pw_or1 (dt_cmp (od_ne rfl (hU_of hr)) (de_call rfl c_order_told dfl_nil hr (by decide) rfl paX (da_cons (dv (pv 12)) da_nil)) (de_call rfl c__law_order dfl_nil hr (by decide) rfl paX (da_cons (dv (pv 13)) da_nil))))))))) (dss_one (ds_ret de_bl)) dss_nil)
  p_f3), fun D S a0 a1 dc A T0 nd pd pf R Q H j tag fd c ab b6 b7 lev b9 b10 b11 b12 b13 ls hm hH hQ hR nx => ?_⟩
  have at_ := ls.ok.ok.at_ _ _ _ _ _ hm
  obtain ⟨tc, cc, vv, kk, q1, _⟩ := ls.d.el hm
  unfold sl evD
  walk_at "go"
  refine ⟨dc, A, T0, j, _, ab, rfl, ls.d, hm, ?_, ls.t.b, fun S1 le1 => ?_⟩
  · have := ls.ok.dp
    have := depth_pre hm
    omega
  have ls1 := ls.le le1
  obtain ⟨tc, cc, vv, kk, q1, _⟩ := ls1.d.el hm
  walk_at "go"
  refine (shD_dat _).ne (by have := ls.ok.dp; have := depth_pre hm; omega) ?_
  walk_at "go"
  refine ⟨dc, A, T0, j, tag, fd, c, ab, rfl, ⟨ls1.d, hm, ls.ok.ok⟩, ?_⟩
  walk_at "go"
  refine (oS_dat _).ne (by decide) ?_
  walk_at "go"
  refine ⟨dc, A, T0, j, tag, fd, c, ab, rfl, ⟨ls1.d, hm, ls.ok.ok⟩, fun S2 le2 => ?_⟩
  have ls2 := ls1.le le2
  obtain ⟨tc, cc, vv, kk, q1, _⟩ := ls2.d.el hm
  walk_at "go"
  refine ⟨dc, A, T0, j, tag, fd, c, ab, rfl, ⟨ls2.d, hm, ls.ok.ok⟩, fun S3 le3 => ?_⟩
  have ls3 := ls2.le le3
  obtain ⟨tc, cc, vv, kk, q1, _⟩ := ls3.d.el hm
  have nm := @name_ok T0 ls3.ok j tag fd c ab hm
  have fin := h_f3 D S3 a0 a1 dc A T0 nd pd pf R Q H j tag fd c ab b6 b7 lev b9 b10 b11 b12 b13 ls3 hm hH hQ hR nx
  unfold sl evD at fin
  unfold evD at nm
  walk_at "go"
  refine nm ?_
  walk_at "go"
  refine ⟨dc, A, T0, j, tag, fd, c, ab, rfl, ⟨ls3.d, hm, ls.ok.ok⟩, ls3.t.d, ?_⟩
  walk_at "go"
  refine ⟨fd, rfl, at_.1, ?_⟩
  walk_at "go"
  refine (oInt_dat _).ne (by decide) ?_
  walk_at "go"
  exact fin
theorem bl_f0 (T : Tx K mg) (V : EnvL P w K mg base) (hr : Room 44 (A0.deeper (envOfC "law" (defScope s_law) s0.heap.objs.size f cdv))) :
    ∃ t, PSs (lwx P w K mg base f cdv A0 outer s0 HE E) bd_f0 (tDS K E e t) ∧ ∀ (D : DEnds) (S : Store) (a0 a1 : Option Dt) (dc : Addr) (A : List Tri) (T0 : Tr) (nd : Option Dt) (pd pf : Addr) (R : List (Nat × Str × Str)) (Q : List (Int × Nat × Nat)) (H : List (Int × Str)) (j : Nat) (tag : Str) (fd : Fd) (c : List Tr) (ab : Ab) (b3 b4 b5 b6 b7 lev b9 b10 b11 b12 b13 : Option Dt), LS K S dc A T0 pd pf R Q → (j, Tr.el tag fd c, ab) ∈ pre 0 [] T0 → H.length ≤ 900 → Q.length + 1 ≤ 900 → R.length + 1 ≤ 900 →
      Nxt K D a0 a1 dc A T0 nd pd pf R Q H j tag fd c ab →
      t D (sl a0 a1 dc T0 nd pd pf H [some (shD (.el tag fd c)), some (.lst (ab.map fun y => shD y.2)), some (.ref (ad A j)), b3, b4, b5, b6, b7, lev, b9, b10, b11, b12, b13]) S := by
  obtain ⟨t2, p_f2, h_f2⟩ := bl_f2 (f := f) (cdv := cdv) (A0 := A0) (outer := outer) (s0 := s0) (HE := HE) (E := E) (e := e) T V hr
  have c__law_role := V.c__law_role
  refine ⟨_, (dss_cons (ds_set (i := 13) sc_law.nd rfl (Or.inr rfl) (de_callTy (cd_pairsPF rfl rfl) (by rfl) T.b_dict (by decide +kernel) (da_cons (de_ixC (n := 1) rfl (dv (pv 10))) da_nil)))
  (dss_cons (ds_par (i := 14) (j := 15) (by rfl) sc_law.nd rfl rfl (by decide) rfl rfl (da_cons (de_call rfl c__law_role dfl_nil hr (by decide) rfl paX (da_cons (de_ixC (n := 0) rfl (dv (pv 10))) (da_cons (dv (pv 13)) da_nil))) (da_cons (de_cmp (od_neN (hW_of hr)) (de_lc (own := [("one", 20)]) rfl sc_law.nd (di_lst rfl (de_op (od_add rfl) (dv (pv 11)) (de_lst (da_cons (dv (pv 10)) da_nil)))) (blkOk_by (own := [("one", 20)]) (N := sl_law) (sc := defScope s_law) (by decide +kernel)) (fun _ _ _ _ _ => (gw_name (i := 20) sc_law.nd rfl (Or.inl rfl) (by decide))) (fun _ _ _ _ _ => (ts_one (dt_din (hu_of hr) de_str (de_callTy (cd_pairsPF rfl rfl) (by rfl) T.b_dict (by decide +kernel) (da_cons (de_ixC (n := 1) rfl (dv (pv 20))) da_nil))))) (fun _ _ _ _ _ => (dv (pv 20)))) (de_lst da_nil)) da_nil)) (by rfl))
  p_f2)), fun D S a0 a1 dc A T0 nd pd pf R Q H j tag fd c ab b3 b4 b5 b6 b7 lev b9 b10 b11 b12 b13 ls hm hH hQ hR nx => ?_⟩
  have at_ := ls.ok.ok.at_ _ _ _ _ _ hm
  have lab9 : ab.length ≤ 900 := by
    have h1 : ab.length + 0 ≤ 0 + j := pre_ab hm
    have h2 := pre_lt hm
    have h3 := ls.ok.sz
    omega
  have fin := fun b6 b7 lev b9 b10 b11 b12 b13 => h_f2 D S a0 a1 dc A T0 nd pd pf R Q H j tag fd c ab b6 b7 lev b9 b10 b11 b12 b13 ls hm hH hQ hR nx
  rw [left_hid ls.ok.ok hm] at fin
  rw [shD_el] at fin ⊢
  walk_at "go"
  refine ⟨rowsD fd, rows_pairs fd, ?_⟩
  rw [rows_merge at_.1.nd]
  walk_at "go"
  refine ⟨tag, fd, rfl, at_.1.nd, at_.2, ?_⟩
  walk_at "go"
  rw [show (ab.map (fun y => shD y.2)) ++ [Dt.tup [.str tag, .ptp ((srtSS fd).map ssD), .tup (shDL c)]] = (ab ++ [(j, Tr.el tag fd c)]).map (fun y => shD y.2) from by rw [List.map_append]; rfl]
  refine lc_choose (fun y : Nat × Tr => shD y.2) (fun y => hidB y.2) (fun y => shD y.2) trivial _ (fun y hy kY kN hY hN => ?_) ?_
  · obtain ⟨t', f', c', ab', ey, hy'⟩ : ∃ t' f' c' ab', y.2 = Tr.el t' f' c' ∧ (y.1, Tr.el t' f' c', ab') ∈ pre 0 [] T0 := by
      rcases List.mem_append.mp hy with hy | hy
      · exact anc_mem hm hy
      · rw [List.mem_singleton.mp hy]
        exact ⟨_, _, _, _, rfl, hm⟩
    have at' := ls.ok.ok.at_ _ _ _ _ _ hy'
    rw [ey, shD_el] at hY ⊢
    walk_at "go"
    refine ⟨rowsD f', rows_pairs f', ?_⟩
    rw [rows_merge at'.1.nd]
    walk_at "go"
    rw [rows_has at'.1.nd]
    have eh : hidB y.2 = (aGet f' "hidden").isSome := by rw [ey]; rfl
    cases e1 : (aGet f' "hidden").isSome with
    | false =>
      walk_at "go"
      exact hN (by rw [eh, e1])
    | true =>
      walk_at "go"
      exact hY (by show hidB (Tr.el t' f' c') = true; rw [← ey, eh, e1])
  · walk_at "go"
    rw [any_fl]
    exact fin _ _ _ _ _ _ _ _
end
end K19

open PySem PySem.Spec PyProof.Rows L2 Pr Dn LamX

namespace K19
open Mk
section
variable {P : Program} {w : World} {K : PySem.W.Frag} {mg : Str → Option Value} {base : Heap} {f : Addr} {cdv : Value} {A0 : Around} {outer : List Env} {s0 : Shared} {HE : Hp} {E : XK} {e : DX}
theorem bl_s4 (T : Tx K mg) (V : EnvL P w K mg base) (hr : Room 44 (A0.deeper (envOfC "law" (defScope s_law) s0.heap.objs.size f cdv))) :
    ∃ t, PSs (lwx P w K mg base f cdv A0 outer s0 HE E) bd_s4 (tDS K E e t) ∧ ∀ (D : DEnds) (S : Store) (a0 a1 : Option Dt) (dc : Addr) (A : List Tri) (T0 : Tr) (nd : Option Dt) (pd pf : Addr) (r : List (Option Dt)), R14 r → LS K S dc A T0 pd pf (outF T0) (fRows (pre 0 [] T0)) →
      (∀ r S', R14 r → LS K S' dc A T0 pd pf (outF T0) (fRows (pre 0 [] T0)) → D.nx (sl a0 a1 dc T0 nd pd pf ((pre 0 [] T0).filterMap (hRow T0)) r) S') →
      t D (sl a0 a1 dc T0 nd pd pf ((pre 0 [] T0).filterMap (hRow T0)) r) S := by
  have c_outline := V.c_outline
  have c_focus_order := V.c_focus_order
  have c_headings := V.c_headings
  refine ⟨_, (dss_one (ds_if (PW.pt (dt_or (dt_cmp (od_neV rfl (hU_of hr)) (de_callTy (cd_listF rfl) (by rfl) T.b_list (by decide +kernel) (da_cons (de_call rfl c_outline dfl_nil hr (by decide) rfl paX (da_cons (dv (pv 2)) da_nil)) da_nil)) (dv (pv 5))) (dt_or (dt_cmp (od_neV rfl (hU_of hr)) (de_callTy (cd_listF rfl) (by rfl) T.b_list (by decide +kernel) (da_cons (de_call rfl c_focus_order dfl_nil hr (by decide) rfl paX (da_cons (dv (pv 2)) da_nil)) da_nil)) (de_lc (own := [("row", 22)]) rfl sc_law.nd (di_lst rfl (de_callB (cd_sortX rfl (hW_of hr)) (by rfl) T.b_sorted (by decide +kernel) (da_cons (dv (pv 6)) da_nil))) (blkOk_by (own := [("row", 22)]) (N := sl_law) (sc := defScope s_law) (by decide +kernel)) (fun _ _ _ _ _ => (gw_name (i := 22) sc_law.nd rfl (Or.inl rfl) (by decide))) (fun _ _ _ _ _ => ts_nil) (fun _ _ _ _ _ => (de_ixC (n := 2) rfl (dv (pv 22)))))) (pw_or1 (dt_cmp (od_ne rfl (hU_of hr)) (de_call rfl c_headings dfl_nil hr (by decide) rfl paX (da_cons (dv (pv 2)) da_nil)) (de_tup (da_cons (de_tupOf rfl (by rfl) T.b_tuple (dv (pv 7))) (da_cons (dv (pv 8)) da_nil)))))))) (dss_one (ds_ret de_bl)) dss_nil)), fun D S a0 a1 dc A T0 nd pd pf r hr14 ls nx => ?_⟩
  obtain ⟨b0, b1, b2, b3, b4, b5, b6, b7, b8, b9, b10, b11, b12, b13, rfl⟩ := hr14
  have hd := ls.hd
  unfold sl evD
  walk_at "go"
  refine ⟨dc, A, T0, rfl, ls.d, ls.ok.ok, fun S1 le1 => ?_⟩
  have ls1 := ls.le le1
  have hd := ls1.hd
  walk_at "go"
  refine DatN.ne (n := 2) (DatN.lstM fun y _ => ⟨rfl, Nat.le_refl _⟩) (by decide) ?_
  walk_at "go"
  refine ⟨dc, A, T0, rfl, ls1.d, ls.ok.ok, ls1.t.d, ls1.t.c, fun S2 le2 => ?_⟩
  have ls2 := ls1.le le2
  have hf := ls2.hf
  walk_at "go"
  refine ⟨srtOk_iii, ?_⟩
  rw [srtR_eq]
  walk_at "go"
  have ef : (focF T0).map (fun n : Nat => Dt.int n) = (srtR (fRows (pre 0 [] T0))).map fun y => Dt.int (y.2.2 : Nat) := by
    unfold focF
    rw [List.map_map]
    rfl
  rw [ef]
  have lq : (srtR (fRows (pre 0 [] T0))).length ≤ 900 := by
    have h0 : (srtR (fRows (pre 0 [] T0))).length = (fRows (pre 0 [] T0)).length := List.length_mergeSort ..
    rw [h0]
    exact ls.lq
  refine ⟨by rw [List.length_map]; exact size6 (by omega), lc_go ?_⟩
  refine lc_map fRowD (fun y => Dt.int (y.2.2 : Nat)) trivial _ (fun y hy kY kN hY => ?_) ?_
  · walk_at "go"
    exact hY
  walk_at "go"
  refine DatN.ne (n := 2) (DatN.lstM fun y _ => ⟨rfl, Nat.zero_le _⟩) (by decide) ?_
  walk_at "go"
  refine ⟨dc, A, T0, rfl, ls2.d, ls.ok.ok, fun S3 le3 => ?_⟩
  have ls3 := ls2.le le3
  walk_at "go"
  refine DatN.ne (n := 4) (DatN.tup fun d hd => ?_) (by decide) ?_
  · simp only [List.mem_cons, List.not_mem_nil, or_false] at hd
    rcases hd with rfl | rfl
    · exact DatN.tupM (n := 2) fun y _ => ⟨rfl, Nat.le_of_ble_eq_true rfl⟩
    · exact ⟨rfl, Nat.zero_le _⟩
  walk_at "go"
  exact nx _ S3 ⟨_, _, _, _, _, _, _, _, _, _, _, _, _, _, rfl⟩ ls3
end
end K19

open PySem PySem.Spec PyProof.Rows L2 Pr Dn LamX

namespace K19
open Mk
def SlD (δ : DS) (d : Addr) : Prop := ∃ a0 a2 a3 a4 a5 a6 a7 a8 a9 r, R14 r ∧ δ = a0 :: some (.ref d) :: a2 :: a3 :: a4 :: a5 :: a6 :: a7 :: a8 :: a9 :: r
theorem mk_tok {b : Nat} {x : Str} {ts : List Tr} (hb : b = 39) (mk : MkP 3 3 b x ts) : TOk (rootT ts) ∧ parseF x = some ⟨flat 0 none (rootT ts), [0]⟩ ∧ x.length ≤ 900000 := by
  subst hb
  have g : GdT (rootT ts) := ⟨⟨nofun, List.nodup_nil, nofun, Nat.zero_le _⟩, by decide, mk.gd⟩
  have h1 := mk.sz
  have h2 := mk.dp
  have h3 := mk.ln
  exact ⟨⟨g.ok, by show 1 + sizeL ts ≤ 900; omega, by show 1 + depthL ts < 8; omega⟩, mk.dr.parse (by decide), by omega⟩
theorem Tbs.keep {K : PySem.W.Frag} {S S' : Store} {d nm : Addr} {k : Nat} (t : Tbs K S) (h : DiS S S' d nm k) (h1 : ∃ l, S d = some (.lst l)) (h2 : ∃ l, S nm = some (.lst l)) : Tbs K S' := by
  obtain ⟨l1, h1⟩ := h1
  obtain ⟨l2, h2⟩ := h2
  have f : ∀ b, S b = some .gtb → S' b = some .gtb := fun b hb => h.fr b _ hb (fun e => by rw [e, h1] at hb; cases hb) (fun e => by rw [e, h2] at hb; cases hb)
  exact ⟨f _ t.a, f _ t.b, f _ t.c, f _ t.d⟩
section
variable {T : Tr} {j : Nat} {tag : Str} {fd : Fd} {c : List Tr} {ab : Ab} {Q : List (Int × Nat × Nat)}
theorem row_left (h : leftOut ab (.el tag fd c) = true) : oRow T (j, Tr.el tag fd c, ab) = none := if_pos h
theorem row_left2 (h : leftOut ab (.el tag fd c) = true) : fRow (j, Tr.el tag fd c, ab) = none := if_pos h
theorem row_left3 (h : leftOut ab (.el tag fd c) = true) : hRow T (j, Tr.el tag fd c, ab) = none := if_pos h
theorem row_in (h : leftOut ab (.el tag fd c) = false) : (oRow T (j, Tr.el tag fd c, ab)).toList = oAdd T tag fd c ab := by
  unfold oRow oAdd
  show (if leftOut ab (.el tag fd c) = true then none else _ : Option _).toList = _
  rw [if_neg (by rw [h]; decide)]
  cases roleF tag fd <;> rfl
theorem row_in2 (h : leftOut ab (.el tag fd c) = false) : (match fRow (j, Tr.el tag fd c, ab) with
    | none => []
    | some y => [(y.1, Q.length, y.2)]) = fAdd fd tag j Q := by
  have e : fRow (j, Tr.el tag fd c, ab) = if (aGet fd "off").isSome = true then none else if focB tag fd = true then some (focO fd, j) else none := if_neg (by rw [h]; decide)
  rw [e]
  unfold fAdd
  by_cases h1 : (aGet fd "off").isSome = true
  · rw [if_pos h1, if_pos h1]
  · rw [if_neg h1, if_neg h1]
    by_cases h2 : focB tag fd = true
    · rw [if_pos h2, if_pos h2]
    · rw [if_neg h2, if_neg h2]
theorem row_in3 (h : leftOut ab (.el tag fd c) = false) : (hRow T (j, Tr.el tag fd c, ab)).toList = hAdd T tag fd c := by
  have e : hRow T (j, Tr.el tag fd c, ab) = if roleF tag fd = some ("heading" : Str) then some (lvlF tag, nameF T tag fd (.el tag fd c)) else none := if_neg (by rw [h]; decide)
  rw [e]
  unfold hAdd
  by_cases h1 : roleF tag fd = some ("heading" : Str)
  · rw [if_pos h1, if_pos h1]; rfl
  · rw [if_neg h1, if_neg h1]; rfl
theorem els_rows {β : Type} (f : En → Option β) (hf : ∀ {i z ab}, f (i, Tr.tx z, ab) = none) (T : Tr) : (els 0 [] T).filterMap f = (pre 0 [] T).filterMap f := by
  unfold els
  rw [List.filterMap_filter]
  congr 1
  funext ⟨i, u, ab⟩
  cases u with
  | tx z => exact hf.symm
  | el a b c => rfl
theorem els_fRows (T : Tr) : fRows (els 0 [] T) = fRows (pre 0 [] T) := by
  unfold fRows
  rw [els_rows fRow rfl]
end
section
variable {P : Program} {w : World} {K : PySem.W.Frag} {mg : Str → Option Value} {base : Heap} {f : Addr} {cdv : Value} {A0 : Around} {outer : List Env} {s0 : Shared} {HE : Hp} {E : XK} {e : DX}
theorem bl_s0 (T : Tx K mg) (V : EnvL P w K mg base) (hr : Room 44 (A0.deeper (envOfC "law" (defScope s_law) s0.heap.objs.size f cdv))) :
    ∃ t, PSs (lwx P w K mg base f cdv A0 outer s0 HE E) bd_s0 (tDS K E e t) ∧ ∀ (D : DEnds) (δ : DS) (S : Store) (d : Addr), SlD δ d → (∃ x n k : Int, S d = some (.lst [.int x, .int n, .int k])) → Tbs K S → (∀ δ' S' d', SlD δ' d' → Tbs K S' → D.nx δ' S') → t D δ S := by
  obtain ⟨t1, p_f0, h_f0⟩ := bl_f0 (f := f) (cdv := cdv) (A0 := A0) (outer := outer) (s0 := s0) (HE := HE) (E := E) (e := e) T V hr
  obtain ⟨t4, p_s4, h_s4⟩ := bl_s4 (f := f) (cdv := cdv) (A0 := A0) (outer := outer) (s0 := s0) (HE := HE) (E := E) (e := e) T V hr
  have m_Node_all_nodes := V.m_Node_all_nodes
  have m_Node_is_text := V.m_Node_is_text
  have m_Node_shown := V.m_Node_shown
  have c_parse_markup := V.c_parse_markup
  have c__law_markup := V.c__law_markup
  have c__law_every := V.c__law_every
  refine ⟨_, (dss_cons (ds_set (i := 2) sc_law.nd rfl (Or.inl rfl) (de_call rfl c_parse_markup dfl_nil hr (by decide) rfl paX (da_cons (de_call rfl c__law_markup dfl_nil hr (by decide) rfl paX (da_cons (dv (pv 1)) (da_cons de_int (da_cons (de_lstO (da_cons de_int da_nil)) da_nil)))) da_nil)))
  (dss_cons (ds_par (i := 3) (j := 4) (by rfl) sc_law.nd rfl rfl (by decide) rfl rfl (da_cons (de_call rfl c__law_every dfl_nil hr (by decide) rfl paX (da_cons (de_meth0 (nm := nm_Node) rfl m_Node_shown (by decide +kernel) dfl_nil hr (by decide) paX (de_fld rfl (fd_Document_root T) (dv (pv 2)))) (da_cons (de_lst da_nil) da_nil))) (da_cons (de_lc (own := [("node", 12)]) rfl sc_law.nd (di_lst rfl (de_meth0 (nm := nm_Node) rfl m_Node_all_nodes (by decide +kernel) dfl_nil hr (by decide) paX (de_fld rfl (fd_Document_root T) (dv (pv 2))))) (blkOk_by (own := [("node", 12)]) (N := sl_law) (sc := defScope s_law) (by decide +kernel)) (fun _ _ _ _ _ => (gw_name (i := 12) sc_law.nd rfl (Or.inl rfl) (by decide))) (fun _ _ _ _ _ => (ts_one (dt_not (de_tru rfl (de_meth0 (nm := nm_Node) rfl m_Node_is_text (by decide +kernel) dfl_nil hr (by decide) passL (dv (pv 12))))))) (fun _ _ _ _ _ => (dv (pv 12)))) da_nil)) (by rfl))
  (dss_cons (ds_asg (de_tup (da_cons (de_lstO da_nil) (da_cons (de_lstO da_nil) (da_cons (de_lst da_nil) (da_cons de_int (da_cons de_int da_nil)))))) (dg_tup (n := 5) rfl rfl (dgs_cons (dg_name (i := 5) sc_law.nd rfl (Or.inl rfl)) (dgs_cons (dg_name (i := 6) sc_law.nd rfl (Or.inl rfl)) (dgs_cons (dg_name (i := 7) sc_law.nd rfl (Or.inl rfl)) (dgs_cons (dg_name (i := 8) sc_law.nd rfl (Or.inl rfl)) (dgs_cons (dg_name (i := 9) sc_law.nd rfl (Or.inl rfl)) dgs_nil)))))))
  (dss_cons (ds_for poX rfl (di_zip rfl (by rfl) T.b_zip (da_cons (dv (pv 3)) (da_cons (dv (pv 4)) da_nil))) (dg_tup (n := 2) rfl rfl (dgs_cons (dg_tup (n := 2) rfl rfl (dgs_cons (dg_name (i := 10) sc_law.nd rfl (Or.inl rfl)) (dgs_cons (dg_name (i := 11) sc_law.nd rfl (Or.inl rfl)) dgs_nil))) (dgs_cons (dg_name (i := 12) sc_law.nd rfl (Or.inl rfl)) dgs_nil))) p_f0)
  p_s4)))), fun D δ S d ⟨a0, a2, a3, a4, a5, a6, a7, a8, a9, r, ⟨b0, b1, b2, b3, b4, b5, b6, b7, b8, b9, b10, b11, b12, b13, hr⟩, hδ⟩ di tb nx => ?_⟩
  subst hr
  subst hδ
  obtain ⟨x0, n0, k0, hd⟩ := di
  walk_at "go"
  intro p hp
  have le := Le.refl.put hp (c := Cell.lst [.int 0])
  walk_at "go"
  refine ⟨d, p, 3, 0, rfl, by decide, ⟨⟨x0, n0, k0, le _ _ hd⟩, sput_same, (fun e => by rw [e, hp] at hd; cases hd), fun b c hb _ _ => hb⟩, by decide +kernel, fun S1 x ts k1 di1 _ mk => ?_⟩
  have tb1 : Tbs K S1 := (tb.le le).keep di1 ⟨_, le _ _ hd⟩ ⟨_, sput_same⟩
  obtain ⟨tok, hparse, hlen⟩ := mk_tok (by decide +kernel) mk
  walk_at "go"
  refine ⟨x, rfl, hlen, tb1.a, fun hn => ?_, fun m' hm S2 tb' sc dc dn op A pp b wf => ?_⟩
  · rw [hparse] at hn; cases hn
  rw [hparse] at hm
  injection hm with hm
  subst hm
  have doc := Doc.of b tok.sz
  have tb2 : Tbs K S2 := tb1.le b.le
  have hroot : (0, rootT ts, []) ∈ pre 0 [] (rootT ts) := pre_head _ 0 []
  generalize rootT ts = T0 at doc tok hroot
  obtain ⟨dn', v', hdc, hdn⟩ := doc.hdc
  obtain ⟨tc, cc, q1, _⟩ := doc.at hroot
  walk_at "go"
  have hdep := tok.dp
  refine ⟨dc, A, T0, 0, T0, [], rfl, doc, hroot, hdep, tb2.b, fun S3 le3 => ?_⟩
  have doc := doc.le le3
  have hdc := le3 _ _ hdc
  have q1 := le3 _ _ q1
  have tb3 := tb2.le le3
  walk_at "go"
  refine ⟨T0, 0, [], rfl, hdep, tok.sz, by show 0 + depth T0 ≤ 100; omega, ?_⟩
  walk_at "go"
  refine ⟨dc, A, T0, 0, T0, [], rfl, doc, hroot, fun S4 p4 le4 np hp4 => ?_⟩
  have doc := doc.le le4
  have tb4 := tb3.le le4
  rw [refs_pre (ab := [])] at hp4
  walk_at "go"
  refine ⟨by rw [List.length_map, pre_len]; exact size6 (by have := tok.sz; omega), lc_go ?_⟩
  refine lc_choose (fun x : En => Dt.ref (ad A x.1)) (fun x => isEl x.2.1) (fun x => Dt.ref (ad A x.1)) hp4 _ (fun x hx kY kN hY hN => ?_) ?_
  · obtain ⟨t, c, q1, _⟩ := doc.at hx
    walk_at "go"
    refine doc.isT hx (fun he => ?_) (fun he => ?_)
    · walk_at "go"
      exact hN he
    · walk_at "go"
      exact hY he
  walk_at "go"
  intro pd hpd
  have le5 := Le.refl.put hpd (c := Cell.lst [])
  walk_at "go"
  intro pf hpf
  have le6 := Le.refl.put hpf (c := Cell.lst [])
  walk_at "go"
  rw [show (pre 0 [] T0).filter (fun x => isEl x.2.1) = els 0 [] T0 from rfl, zipD_map]
  have npd : S4 pd = none := hpd
  have npf : S4 pf = none := (sput_free hpf).2
  have ne56 : pd ≠ pf := fun e => by rw [e] at hpd; rw [← e, sput_same] at hpf; cases hpf
  have ls0 : LS K (sput (sput S4 pd (.lst [])) pf (.lst [])) dc A T0 pd pf [] [] := ⟨(doc.le le5).le le6, tok, (tb4.le le5).le le6, le6 _ _ sput_same, sput_same, ne56, ⟨S4, doc, tb4, npd, npf, le5.trans le6⟩, Nat.zero_le _, Nat.zero_le _⟩
  have hel := els_len 0 [] T0
  have hsz := tok.sz
  refine forGo_at (fun x : En => Dt.tup [evRow x, .ref (ad A x.1)]) (els 0 [] T0) (fun i δ S => ∃ r, R14 r ∧ LS K S dc A T0 pd pf (((els 0 [] T0).take i).filterMap (oRow T0)) (fRows ((els 0 [] T0).take i)) ∧ δ = sl a0 (some (.ref d)) dc T0 (some (.lst ((els 0 [] T0).map fun x => Dt.ref (ad A x.1)))) pd pf (((els 0 [] T0).take i).filterMap (hRow T0)) r) (fun _ _ _ _ => trivial) (fun i x δ S' hx hI nx2 kk2 => ?_) (fun δ S' hI => ?_) ?_
  · obtain ⟨r, ⟨b0, b1, b2, b3, b4, b5, b6, b7, b8, b9, b10, b11, b12, b13, rfl⟩, ls, rfl⟩ := hI
    obtain ⟨hm, tag, fd, c, ex⟩ := els_mem (List.mem_of_getElem? hx)
    obtain ⟨j, u, ab⟩ := x
    have ex : u = .el tag fd c := ex
    subst ex
    have hi : i < (els 0 [] T0).length := (List.getElem?_eq_some_iff.mp hx).1
    have nxt : Nxt K { nx := nx2, rt := D.rt, bk := t4 D, ct := nx2 } a0 (some (.ref d)) dc A T0 (some (.lst ((els 0 [] T0).map fun x => Dt.ref (ad A x.1)))) pd pf (((els 0 [] T0).take i).filterMap (oRow T0)) (fRows ((els 0 [] T0).take i)) (((els 0 [] T0).take i).filterMap (hRow T0)) j tag fd c ab := ⟨fun hl r S2 hr ls2 => kk2 _ _ ⟨r, hr, by
        rw [fm_take _ hx, fRows_snoc hx, row_left hl, row_left2 hl]
        simpa using ls2, by
        rw [fm_take _ hx, row_left3 hl]
        simp⟩, fun hl r S2 hr ls2 => kk2 _ _ ⟨r, hr, by
        have e2 : fRows ((els 0 [] T0).take (i + 1)) = fRows ((els 0 [] T0).take i) ++ fAdd fd tag j (fRows ((els 0 [] T0).take i)) := by rw [fRows_snoc hx]; exact congrArg _ (row_in2 hl)
        rw [fm_take _ hx, e2, row_in hl]
        exact ls2, by
        rw [fm_take _ hx, row_in3 hl]⟩⟩
    have fin := h_f0 { nx := nx2, rt := D.rt, bk := t4 D, ct := nx2 } S' a0 (some (.ref d)) dc A T0 (some (.lst ((els 0 [] T0).map fun x => Dt.ref (ad A x.1)))) pd pf _ _ _ j tag fd c ab b3 b4 b5 b6 b7 b8 b9 b10 b11 b12 b13 ls hm (by refine Nat.le_trans (List.length_filterMap_le _ _) ?_; rw [List.length_take]; omega) (by refine Nat.le_trans (Nat.succ_le_succ (fRows_len _)) ?_; rw [List.length_take]; omega) (by refine Nat.le_trans (Nat.succ_le_succ (List.length_filterMap_le _ _)) ?_; rw [List.length_take]; omega) nxt
    walk_at "go"
    exact fin
  · obtain ⟨r, hr, ls, rfl⟩ := hI
    rw [List.take_length, els_rows _ rfl, els_fRows] at ls
    rw [List.take_length, els_rows _ rfl]
    refine h_s4 D S' a0 (some (.ref d)) dc A T0 _ pd pf r hr ls fun r2 S3 hr2 ls3 => ?_
    exact nx _ S3 d ⟨_, _, _, _, _, _, _, _, _, _, hr2, rfl⟩ ls3.t
  · exact ⟨_, ⟨_, _, _, _, _, _, _, _, _, _, _, _, _, _, rfl⟩, ls0, rfl⟩
end
end K19

namespace K19
open PySem PySem.Spec PyProof.Rows L2 Pr Dn Mk
def pgZ : Str := "<label for=\"x\">Your name</label><input id=\"x\"><a href=\"y\" order=\"2\">go</a><button order=\"1\">do</button><div hidden><button>no</button></div>"
def pgT : Tr := rootT [.el "label" [("for", "x")] [.tx "Your name"], .el "input" [("id", "x")] [], .el "a" [("href", "y"), ("order", "2")] [.tx "go"], .el "button" [("order", "1")] [.tx "do"], .el "div" [("hidden", "")] [.el "button" [] [.tx "no"]]]
theorem pg_parse : parseF pgZ = some ⟨flat 0 none pgT, [0]⟩ := by decide +kernel
theorem pg_out : outF pgT = [(0, ("field" : Str), ("Your name" : Str)), (0, ("link" : Str), ("go" : Str)), (0, ("button" : Str), ("do" : Str))] := by decide +kernel
theorem ms3 {α : Type} (le : α → α → Bool) (a b c : α) (h1 : le a b = false) (h2 : le b c = false) : [a, b, c].mergeSort le = [c, b, a] := by
  simp [List.mergeSort, List.MergeSort.Internal.splitInTwo, List.merge, h1, h2]
theorem pg_rows : fRows (pre 0 [] pgT) = [(1000000, 0, 3), (2, 1, 4), (1, 2, 6)] := by decide +kernel
theorem pg_foc : focF pgT = [6, 4, 3] := by
  unfold focF
  rw [pg_rows]
  unfold srtR
  rw [ms3 _ _ _ _ (by decide +kernel) (by decide +kernel)]
  rfl
def fdB (fd : Fd) : Bool := fd.all fun p => (decide (p.1.length ≤ 16777216) && PySem.PyData.strOk p.1) && (decide (p.2.length ≤ 16777216) && PySem.PyData.strOk p.2) && (decide (p.1.length ≤ 40) && decide (p.2.length ≤ 40))
theorem fdV {fd : Fd} (h : fdB fd = true) : ∀ p ∈ fd, SOk p.1 ∧ SOk p.2 ∧ p.1.length ≤ 40 ∧ p.2.length ≤ 40 := fun p hp => by
  have h := List.all_eq_true.mp h p hp
  rw [Bool.and_eq_true, Bool.and_eq_true] at h
  obtain ⟨⟨h1, h2⟩, h3⟩ := h
  rw [Bool.and_eq_true] at h3
  exact ⟨sok_of h1, sok_of h2, of_decide_eq_true h3.1, of_decide_eq_true h3.2⟩
theorem pg_ok : TrOk pgT := by
  refine GdT.ok ⟨⟨fdV (by decide +kernel), by decide +kernel, nofun, by decide⟩, by decide +kernel, ⟨⟨fdV (by decide +kernel), by decide +kernel, nofun, by decide⟩, by decide +kernel, ⟨⟨sok_of (by decide +kernel), by decide +kernel⟩, trivial⟩⟩, ⟨⟨fdV (by decide +kernel), by decide +kernel, nofun, by decide⟩, by decide +kernel, trivial⟩, ⟨⟨fdV (by decide +kernel), by decide +kernel, fun z h => ?_, by decide⟩, by decide +kernel, ⟨⟨sok_of (by decide +kernel), by decide +kernel⟩, trivial⟩⟩, ⟨⟨fdV (by decide +kernel), by decide +kernel, fun z h => ?_, by decide⟩, by decide +kernel, ⟨⟨sok_of (by decide +kernel), by decide +kernel⟩, trivial⟩⟩, ⟨⟨fdV (by decide +kernel), by decide +kernel, nofun, by decide⟩, by decide +kernel, ⟨⟨fdV (by decide +kernel), by decide +kernel, nofun, by decide⟩, by decide +kernel, ⟨⟨sok_of (by decide +kernel), by decide +kernel⟩, trivial⟩⟩, trivial⟩, trivial⟩
  · have e : aGet [(("href" : Str), ("y" : Str)), ("order", "2")] "order" = some "2" := by decide +kernel
    rw [e] at h
    injection h with h
    rw [← h]
    decide +kernel
  · have e : aGet [(("order" : Str), ("1" : Str))] "order" = some "1" := by decide +kernel
    rw [e] at h
    injection h with h
    rw [← h]
    decide +kernel
theorem pg_sz : size pgT = 11 := by decide +kernel
theorem pg6 : ∃ fd c ab, (6, Tr.el "button" fd c, ab) ∈ pre 0 [] pgT := ⟨_, _, _, List.mem_of_getElem? (i := 6) rfl⟩
theorem pg4 : ∃ fd c ab, (4, Tr.el "a" fd c, ab) ∈ pre 0 [] pgT := ⟨_, _, _, List.mem_of_getElem? (i := 4) rfl⟩
theorem pg3 : ∃ fd c ab, (3, Tr.el "input" fd c, ab) ∈ pre 0 [] pgT := ⟨_, _, _, List.mem_of_getElem? (i := 3) rfl⟩
end K19

open PySem PySem.Spec PyProof.Rows L2 Pr Dn LamX

namespace K19
open Mk
section
variable {P : Program} {w : World} {K : PySem.W.Frag} {mg : Str → Option Value} {base : Heap} {f : Addr} {cdv : Value} {A0 : Around} {outer : List Env} {s0 : Shared} {HE : Hp} {E : XK} {e : DX}
theorem bl_tail (T : Tx K mg) (V : EnvL P w K mg base) (hr : Room 44 (A0.deeper (envOfC "law" (defScope s_law) s0.heap.objs.size f cdv))) :
    ∃ t, PSs (lwx P w K mg base f cdv A0 outer s0 HE E) bd_tail (tDS K E e t) ∧ ∀ (D : DEnds) (δ : DS) (S : Store) (d : Addr), SlD δ d → Tbs K S → (∀ S', D.rt (.bl true) S') → t D δ S := by
  have m_Document_node_of := V.m_Document_node_of
  have c_parse_markup := V.c_parse_markup
  have c_outline := V.c_outline
  have c_focus_order := V.c_focus_order
  refine ⟨_, (dss_cons (ds_set (i := 19) sc_law.nd rfl (Or.inr rfl) (de_call rfl c_parse_markup dfl_nil hr (by decide) rfl paX (da_cons de_str da_nil)))
  (dss_cons (ds_if (PW.pt (dt_or (dt_cmp (od_neV rfl (hU_of hr)) (de_call rfl c_outline dfl_nil hr (by decide) rfl paX (da_cons (dv (pv 19)) da_nil)) (de_tup (da_cons (de_tup (da_cons de_int (da_cons de_str (da_cons de_str da_nil)))) (da_cons (de_tup (da_cons de_int (da_cons de_str (da_cons de_str da_nil)))) (da_cons (de_tup (da_cons de_int (da_cons de_str (da_cons de_str da_nil)))) da_nil))))) (pw_or1 (dt_cmp (od_ne rfl (hU_of hr)) (de_callB (cd_len rfl) (by rfl) T.b_len (by decide +kernel) (da_cons (de_call rfl c_focus_order dfl_nil hr (by decide) rfl paX (da_cons (dv (pv 19)) da_nil)) da_nil)) de_int)))) (dss_one (ds_ret de_bl)) dss_nil)
  (dss_one (ds_ret (de_cmp (od_eqV rfl (hU_of hr)) (de_lc (own := [("number", 23)]) rfl sc_law.nd (di_tup rfl (de_call rfl c_focus_order dfl_nil hr (by decide) rfl paX (da_cons (dv (pv 19)) da_nil))) (blkOk_by (own := [("number", 23)]) (N := sl_law) (sc := defScope s_law) (by decide +kernel)) (fun _ _ _ _ _ => (gw_name (i := 23) sc_law.nd rfl (Or.inl rfl) (by decide))) (fun _ _ _ _ _ => ts_nil) (fun _ _ _ _ _ => (de_fld rfl (fd_Node_tag T) (de_meth (nm := nm_Document) rfl m_Document_node_of (by decide +kernel) dfl_nil hr (by decide) passL (dv (pv 19)) (da_cons (dv (pv 23)) da_nil))))) (de_lst (da_cons de_str (da_cons de_str (da_cons de_str da_nil))))))))), fun D δ S d ⟨a0, a2, a3, a4, a5, a6, a7, a8, a9, r, ⟨b0, b1, b2, b3, b4, b5, b6, b7, b8, b9, b10, b11, b12, b13, hr⟩, hδ⟩ tb nx => ?_⟩
  subst hr
  subst hδ
  walk_at "go"
  refine ⟨pgZ, rfl, by decide +kernel, tb.a, fun hn => ?_, fun m' hm S2 tb' sc dc dn op A pp b wf => ?_⟩
  · rw [pg_parse] at hn; cases hn
  rw [pg_parse] at hm
  injection hm with hm
  subst hm
  have doc := Doc.of b (by rw [pg_sz]; decide)
  have tb2 : Tbs K S2 := tb.le b.le
  walk_at "go"
  refine ⟨dc, A, pgT, rfl, doc, pg_ok, fun S3 le3 => ?_⟩
  have doc := doc.le le3
  have tb3 := tb2.le le3
  rw [pg_out]
  walk_at "go"
  refine DatN.ne (n := 2) (DatN.tupM fun y _ => ⟨rfl, Nat.le_refl _⟩) (by decide) ?_
  walk_at "go"
  refine ⟨dc, A, pgT, rfl, doc, pg_ok, tb3.d, tb3.c, fun S4 le4 => ?_⟩
  have doc := doc.le le4
  have tb4 := tb3.le le4
  rw [pg_foc]
  walk_at "go"
  refine ⟨dc, A, pgT, rfl, doc, pg_ok, tb4.d, tb4.c, fun S5 le5 => ?_⟩
  have doc := doc.le le5
  obtain ⟨dn', v', hdc, hdn⟩ := doc.hdc
  have nd : ∀ (j : Nat) (tag : Str), (∃ fd c ab, (j, Tr.el tag fd c, ab) ∈ pre 0 [] pgT) → ∃ t c p v k, S5 (ad A j) = some (nodeC K (j : Nat) (.str tag) (.str "") t c p v k) := fun j tag ⟨fd, c, ab, h⟩ => by
    obtain ⟨t, c, v, k, g, _⟩ := doc.el h
    exact ⟨_, _, _, _, _, g⟩
  rw [pg_foc]
  walk_at "go"
  have hL : ∀ x ∈ ([(6, ("button" : Str)), (4, ("a" : Str)), (3, ("input" : Str))] : List (Nat × Str)), (∃ fd c ab, (x.1, Tr.el x.2 fd c, ab) ∈ pre 0 [] pgT) ∧ x.1 < size pgT := fun x hx => by
    rw [pg_sz]
    simp only [List.mem_cons, List.not_mem_nil, or_false] at hx
    rcases hx with rfl | rfl | rfl
    · exact ⟨pg6, by decide⟩
    · exact ⟨pg4, by decide⟩
    · exact ⟨pg3, by decide⟩
  rw [show List.map (fun n : Nat => Dt.int n) [6, 4, 3] = ([(6, ("button" : Str)), (4, ("a" : Str)), (3, ("input" : Str))] : List (Nat × Str)).map fun x => Dt.int (x.1 : Nat) from rfl]
  refine lc_map (fun x : Nat × Str => Dt.int (x.1 : Nat)) (fun x => Dt.str x.2) trivial _ (fun x hx kY kN hY => ?_) ?_
  · obtain ⟨h1, h2⟩ := hL x hx
    obtain ⟨t, c, p, v, k, q1⟩ := nd x.1 x.2 h1
    walk_at "go"
    refine ⟨dc, A, pgT, x.1, rfl, doc, h2, ?_⟩
    walk_at "go"
    exact hY
  walk_at "go"
  refine eq_self (by decide +kernel) (by decide +kernel) ?_
  exact nx S5
end
end K19

open PySem PySem.Spec PyProof.Rows L2 Pr Dn LamX

namespace K19
open Mk
def cLaw (K : PySem.W.Frag) : DSp := fun ds S q _ => ∃ ns : List Int, ds = [.scr ns] ∧ ns.length ≤ 10000 ∧ Tbs K S ∧ ∀ S', q (.bl true) S'
section
variable {P : Program} {w : World} {K : PySem.W.Frag} {mg : Str → Option Value} {base : Heap}
theorem ok_law (T : Tx K mg) (V : EnvL P w K mg base) (c__law_rounds : CalX P w K mg base 2 "_law_rounds" (spD K cRounds) [])
    {f : Addr} {fd : FuncData} (F : FunD K "law" "law" (defArgs s_law) (defBody s_law) (defScope s_law) [] [] f fd) : FnOk P w K mg base (L2.CX P w) 45 f fd ["script"] (spD K (cLaw K)) := by
  refine dfn 24 F sc_law (fun ds S q e h => ?_) rfl (fun cdv A outer s H E e hr => ?_)
  · obtain ⟨ns, rfl, _⟩ := h
    rfl
  · obtain ⟨t1, p_s0, h_s0⟩ := bl_s0 (f := f) (cdv := cdv) (A0 := A) (outer := outer) (s0 := s) (HE := H) (E := E) (e := e) T V hr
    obtain ⟨t2, p_tail, h_tail⟩ := bl_tail (f := f) (cdv := cdv) (A0 := A) (outer := outer) (s0 := s) (HE := H) (E := E) (e := e) T V hr
    refine ⟨_, (dss_cons (ds_for poX rfl (di_lst rfl (de_call rfl c__law_rounds dfl_nil hr (by decide) rfl paX (da_cons (dv (pv 0)) (da_cons de_int da_nil)))) (dg_name (i := 1) sc_law.nd rfl (Or.inl rfl)) p_s0)
  p_tail), fun ds S q h => ?_⟩
    obtain ⟨ns, rfl, nl, tx, kk⟩ := h
    walk_at "go"
    refine ⟨ns, rfl, nl, fun d x n k np => ?_⟩
    have le := Le.refl.put np (c := Cell.lst [.int x, .int n, .int k])
    walk_at "go"
    refine h_s0 _ _ _ d ⟨_, _, _, _, _, _, _, _, _, _, ⟨_, _, _, _, _, _, _, _, _, _, _, _, _, _, rfl⟩, rfl⟩ ⟨x, n, k, sput_same⟩ (tx.le le) fun δ' S' d' sl' tb' => ?_
    exact ⟨trivial, h_tail _ δ' S' d' sl' tb' kk⟩
end
end K19

open PySem PySem.Spec PyProof.Rows L2 Pr Dn LamX NdefX

namespace K19
open Mk
section
variable {K : PySem.W.Frag} {f : Addr} {fd : FuncData}
theorem bnd_Node (F : FunD K "__init__" "Node.__init__" (defArgs s_Node_init) (defBody s_Node_init) (defScope s_Node_init) [.str ""] [] f fd) : ∃ ds, Vals [] ds ∧ Binds K fd ["self", "number", "tag", "text"] ds := F.binds1 4 1 (by simp) rfl fun T kV doc pm an cdv ct us its hu hi => (match us, its, hu, hi with | [_, _, _, _], [_], _, _ => ⟨_, rfl, rfl⟩)
theorem bnd_make (F : FunD K "make" "Document.make" (defArgs s_Document_make) (defBody s_Document_make) (defScope s_Document_make) [.str ""] [] f fd) : ∃ ds, Vals [] ds ∧ Binds K fd ["self", "tag", "text"] ds := F.binds1 3 1 (by simp) rfl fun T kV doc pm an cdv ct us its hu hi => (match us, its, hu, hi with | [_, _, _], [_], _, _ => ⟨_, rfl, rfl⟩)
theorem bnd_make1 (F : FunD K "make" "Document.make" (defArgs s_Document_make) (defBody s_Document_make) (defScope s_Document_make) [.str ""] [] f fd) : ∃ ds, Vals [.str ""] ds ∧ Binds K fd ["self", "tag", "text"] ds := F.binds1 2 0 (by simp) rfl fun T kV doc pm an cdv ct us its hu hi => (match us, its, hu, hi with | [_, _], [_], _, _ => ⟨_, rfl, rfl⟩)
theorem bnd_here (F : FunD K "here" "Scanner.here" (defArgs s_Scanner_here) (defBody s_Scanner_here) (defScope s_Scanner_here) [.int 1] [] f fd) : ∃ ds, Vals [] ds ∧ Binds K fd ["self", "many"] ds := F.binds1 2 1 (by simp) rfl fun T kV doc pm an cdv ct us its hu hi => (match us, its, hu, hi with | [_, _], [_], _, _ => ⟨_, rfl, rfl⟩)
theorem bnd_here1 (F : FunD K "here" "Scanner.here" (defArgs s_Scanner_here) (defBody s_Scanner_here) (defScope s_Scanner_here) [.int 1] [] f fd) : ∃ ds, Vals [.int 1] ds ∧ Binds K fd ["self", "many"] ds := F.binds1 1 0 (by simp) rfl fun T kV doc pm an cdv ct us its hu hi => (match us, its, hu, hi with | [_], [_], _, _ => ⟨_, rfl, rfl⟩)
end
abbrev PL_ : Program := PySem.Challenge.rw_pagestack_k19_what_a_page_says.prog
theorem law_at_ (w : World) (mg : Str → Option Value) (fa_ : Addr) (h : Heap) {K : PySem.W.Frag} (KX : K.In h) (G : h.Ns mainGlobals mg) (hfa : mg ("law" : Str) = some (.ref fa_)) (c : He.SaysX fa fn ts tf exB w h K) :
    LamX.LawAtS PySem.Challenge.rw_pagestack_k19_what_a_page_says w K (L2.CX PL_ w) 45 63 "script" mg fa_ h := by
  have T : Tx K mg := tx_of KX G c.t.d c.more
  have efa := hfa.symm.trans T.g_law
  cases efa
  have mm := c.more
  unfold exB at mm
  simp only [Bool.and_eq_true] at mm
  have kd_ENTITIES : KdX K w (He.ga K "ENTITIES") entD := kdx_of (tabW c.t 0) mm.2.2.1
  have kd_ROLES : KdX K w (He.ga K "ROLES") rolesD := kdx_of (tabW c.t 1) mm.2.2.2
  have hnd : [(He.cT K ("Document", some "place_before")).2, (He.cT K ("Node", some "shown")).2, (He.cT K ("focus_order", none)).2, (He.cT K ("order_told", none)).2].Nodup := of_decide_eq_true mm.2.1
  obtain ⟨fd_wall, F_wall⟩ := c.t.d.def_ 0 (d := d_wall) rfl
  obtain ⟨fd_role_of, F_role_of⟩ := c.t.d.def_ 1 (d := d_role_of) rfl
  obtain ⟨fd_is_left_out, F_is_left_out⟩ := c.t.d.def_ 2 (d := d_is_left_out) rfl
  obtain ⟨fd_name_of, F_name_of⟩ := c.t.d.def_ 3 (d := d_name_of) rfl
  obtain ⟨fd_label_for, F_label_for⟩ := c.t.d.def_ 4 (d := d_label_for) rfl
  obtain ⟨fd_outline, F_outline⟩ := c.t.d.def_ 5 (d := d_outline) rfl
  obtain ⟨fd_focus_order, F_focus_order⟩ := c.t.d.def_ 6 (d := d_focus_order) rfl
  obtain ⟨fd_order_told, F_order_told⟩ := c.t.d.def_ 7 (d := d_order_told) rfl
  obtain ⟨fd_headings, F_headings⟩ := c.t.d.def_ 8 (d := d_headings) rfl
  obtain ⟨fd_Node_init, F_Node_init⟩ := c.t.d.def_ 9 (d := d_Node_init) rfl
  obtain ⟨fd_Node_is_text, F_Node_is_text⟩ := c.t.d.def_ 10 (d := d_Node_is_text) rfl
  obtain ⟨fd_Node_attribute, F_Node_attribute⟩ := c.t.d.def_ 11 (d := d_Node_attribute) rfl
  obtain ⟨fd_Node_class_words, F_Node_class_words⟩ := c.t.d.def_ 12 (d := d_Node_class_words) rfl
  obtain ⟨fd_Node_element_children, F_Node_element_children⟩ := c.t.d.def_ 13 (d := d_Node_element_children) rfl
  obtain ⟨fd_Node_place_in, F_Node_place_in⟩ := c.t.d.def_ 14 (d := d_Node_place_in) rfl
  obtain ⟨fd_Node_path, F_Node_path⟩ := c.t.d.def_ 15 (d := d_Node_path) rfl
  obtain ⟨fd_Node_levels_below, F_Node_levels_below⟩ := c.t.d.def_ 16 (d := d_Node_levels_below) rfl
  obtain ⟨fd_Node_all_nodes, F_Node_all_nodes⟩ := c.t.d.def_ 17 (d := d_Node_all_nodes) rfl
  obtain ⟨fd_Node_content, F_Node_content⟩ := c.t.d.def_ 18 (d := d_Node_content) rfl
  obtain ⟨fd_Node_shown, F_Node_shown⟩ := c.t.d.def_ 19 (d := d_Node_shown) rfl
  obtain ⟨fd_Document_init, F_Document_init⟩ := c.t.d.def_ 20 (d := d_Document_init) rfl
  obtain ⟨fd_Document_make, F_Document_make⟩ := c.t.d.def_ 21 (d := d_Document_make) rfl
  obtain ⟨fd_Document_node_of, F_Document_node_of⟩ := c.t.d.def_ 22 (d := d_Document_node_of) rfl
  obtain ⟨fd_Document_append, F_Document_append⟩ := c.t.d.def_ 23 (d := d_Document_append) rfl
  obtain ⟨fd_Document_place_before, F_Document_place_before⟩ := c.t.d.def_ 24 (d := d_Document_place_before) rfl
  obtain ⟨fd_Document_remove, F_Document_remove⟩ := c.t.d.def_ 25 (d := d_Document_remove) rfl
  obtain ⟨fd_Document_set_attribute, F_Document_set_attribute⟩ := c.t.d.def_ 26 (d := d_Document_set_attribute) rfl
  obtain ⟨fd_Document_set_text, F_Document_set_text⟩ := c.t.d.def_ 27 (d := d_Document_set_text) rfl
  obtain ⟨fd_Document_by_id, F_Document_by_id⟩ := c.t.d.def_ 28 (d := d_Document_by_id) rfl
  obtain ⟨fd_Scanner_init, F_Scanner_init⟩ := c.t.d.def_ 29 (d := d_Scanner_init) rfl
  obtain ⟨fd_Scanner_here, F_Scanner_here⟩ := c.t.d.def_ 30 (d := d_Scanner_here) rfl
  obtain ⟨fd_Scanner_skip_blanks, F_Scanner_skip_blanks⟩ := c.t.d.def_ 31 (d := d_Scanner_skip_blanks) rfl
  obtain ⟨fd_Scanner_read_name, F_Scanner_read_name⟩ := c.t.d.def_ 32 (d := d_Scanner_read_name) rfl
  obtain ⟨fd_Scanner_up_to, F_Scanner_up_to⟩ := c.t.d.def_ 33 (d := d_Scanner_up_to) rfl
  obtain ⟨fd_with_entities, F_with_entities⟩ := c.t.d.def_ 34 (d := d_with_entities) rfl
  obtain ⟨fd_TreeBuilder_init, F_TreeBuilder_init⟩ := c.t.d.def_ 35 (d := d_TreeBuilder_init) rfl
  obtain ⟨fd_TreeBuilder_build, F_TreeBuilder_build⟩ := c.t.d.def_ 36 (d := d_TreeBuilder_build) rfl
  obtain ⟨fd_TreeBuilder_text_run, F_TreeBuilder_text_run⟩ := c.t.d.def_ 37 (d := d_TreeBuilder_text_run) rfl
  obtain ⟨fd_TreeBuilder_start_tag, F_TreeBuilder_start_tag⟩ := c.t.d.def_ 38 (d := d_TreeBuilder_start_tag) rfl
  obtain ⟨fd_TreeBuilder_close_before, F_TreeBuilder_close_before⟩ := c.t.d.def_ 39 (d := d_TreeBuilder_close_before) rfl
  obtain ⟨fd_TreeBuilder_read_attributes, F_TreeBuilder_read_attributes⟩ := c.t.d.def_ 40 (d := d_TreeBuilder_read_attributes) rfl
  obtain ⟨fd_TreeBuilder_end_tag, F_TreeBuilder_end_tag⟩ := c.t.d.def_ 41 (d := d_TreeBuilder_end_tag) rfl
  obtain ⟨fd_start_state, F_start_state⟩ := c.t.d.def_ 42 (d := d_start_state) rfl
  obtain ⟨fd_parse_markup, F_parse_markup⟩ := c.t.d.def_ 43 (d := d_parse_markup) rfl
  obtain ⟨fd_law_dice, F_law_dice⟩ := c.t.d.def_ 44 (d := d_law_dice) rfl
  obtain ⟨fd_law_roll, F_law_roll⟩ := c.t.d.def_ 45 (d := d_law_roll) rfl
  obtain ⟨fd_law_rounds, F_law_rounds⟩ := c.t.d.def_ 46 (d := d_law_rounds) rfl
  obtain ⟨fd_law_markup, F_law_markup⟩ := c.t.d.def_ 47 (d := d_law_markup) rfl
  obtain ⟨fd_law_role, F_law_role⟩ := c.t.d.def_ 48 (d := d_law_role) rfl
  obtain ⟨fd_law_words, F_law_words⟩ := c.t.d.def_ 49 (d := d_law_words) rfl
  obtain ⟨fd_law_every, F_law_every⟩ := c.t.d.def_ 50 (d := d_law_every) rfl
  obtain ⟨fd_law_name, F_law_name⟩ := c.t.d.def_ 51 (d := d_law_name) rfl
  obtain ⟨fd_law_order, F_law_order⟩ := c.t.d.def_ 52 (d := d_law_order) rfl
  obtain ⟨fd_law, F_law⟩ := c.t.d.def_ 53 (d := d_law) rfl
  refine ⟨fd_law, [He.cT K ("Document", some "place_before"), He.cT K ("Node", some "shown"), He.cT K ("focus_order", none), He.cT K ("order_told", none)], spD K (cLaw K), fun p hp => ?_, fun p hp => ?_, fun p hp => ?_, fun s u => ?_, fun H a ns hl hbits hP hS => ?_, fun base KB GB TB => ?_⟩
  · simp only [List.mem_cons, List.not_mem_nil, or_false] at hp
    rcases hp with rfl | rfl | rfl | rfl
    · exact c.empty ("Document", some "place_before") List.mem_cons_self
    · exact c.empty ("Node", some "shown") (List.mem_cons_of_mem _ List.mem_cons_self)
    · exact c.empty ("focus_order", none) (List.mem_cons_of_mem _ (List.mem_cons_of_mem _ List.mem_cons_self))
    · exact c.empty ("order_told", none) (List.mem_cons_of_mem _ (List.mem_cons_of_mem _ (List.mem_cons_of_mem _ List.mem_cons_self)))
  · simp only [List.mem_cons, List.not_mem_nil, or_false] at hp
    rcases hp with rfl | rfl | rfl | rfl
    · exact c.out ("Document", some "place_before") List.mem_cons_self
    · exact c.out ("Node", some "shown") (List.mem_cons_of_mem _ List.mem_cons_self)
    · exact c.out ("focus_order", none) (List.mem_cons_of_mem _ (List.mem_cons_of_mem _ List.mem_cons_self))
    · exact c.out ("order_told", none) (List.mem_cons_of_mem _ (List.mem_cons_of_mem _ (List.mem_cons_of_mem _ List.mem_cons_self)))
  · simp only [List.mem_cons, List.not_mem_nil, or_false] at hp
    rcases hp with rfl | rfl | rfl | rfl
    · exact PySem.W.codeHd_of_K KX (c.hd ("Document", some "place_before") List.mem_cons_self)
    · exact PySem.W.codeHd_of_K KX (c.hd ("Node", some "shown") (List.mem_cons_of_mem _ List.mem_cons_self))
    · exact PySem.W.codeHd_of_K KX (c.hd ("focus_order", none) (List.mem_cons_of_mem _ (List.mem_cons_of_mem _ List.mem_cons_self)))
    · exact PySem.W.codeHd_of_K KX (c.hd ("order_told", none) (List.mem_cons_of_mem _ (List.mem_cons_of_mem _ (List.mem_cons_of_mem _ List.mem_cons_self))))
  · exact FunD.bindsA (ps := ["script"]) F_law (fun _ _ _ _ _ _ us hl => match us, hl with | [_], _ => rfl) s [u] rfl
  · have nd : (([((He.cT K ("Document", some "place_before")).2, .gtb), ((He.cT K ("Node", some "shown")).2, .gtb), ((He.cT K ("focus_order", none)).2, .gtb), ((He.cT K ("order_told", none)).2, .gtb)] : List (Addr × Cell)).map (·.1)).Nodup := by simpa using hnd
    refine law_start (T := [((He.cT K ("Document", some "place_before")).2, .gtb), ((He.cT K ("Node", some "shown")).2, .gtb), ((He.cT K ("focus_order", none)).2, .gtb), ((He.cT K ("order_told", none)).2, .gtb)]) (fun p hp => ?_) hS fun q hq => ⟨ns, rfl, by omega, ⟨tabS_at nd _ List.mem_cons_self, tabS_at nd _ (List.mem_cons_of_mem _ List.mem_cons_self), tabS_at nd _ (List.mem_cons_of_mem _ (List.mem_cons_of_mem _ List.mem_cons_self)), tabS_at nd _ (List.mem_cons_of_mem _ (List.mem_cons_of_mem _ (List.mem_cons_of_mem _ List.mem_cons_self)))⟩, hq⟩
    simp only [List.mem_cons, List.not_mem_nil, or_false] at hp
    rcases hp with rfl | rfl | rfl | rfl
    · exact ⟨hP _ List.mem_cons_self, Or.inr rfl⟩
    · exact ⟨hP _ (List.mem_cons_of_mem _ List.mem_cons_self), Or.inr rfl⟩
    · exact ⟨hP _ (List.mem_cons_of_mem _ (List.mem_cons_of_mem _ List.mem_cons_self)), Or.inr rfl⟩
    · exact ⟨hP _ (List.mem_cons_of_mem _ (List.mem_cons_of_mem _ (List.mem_cons_of_mem _ List.mem_cons_self))), Or.inr rfl⟩
  · have tb_Document_place_before : ∀ c, fd_Document_place_before.code = .ref c → TabB base mg c (He.cT K ("Document", some "place_before")).2 := by
      obtain ⟨oc, od, dV, kV, doc, pm, an, cdv, ct, osl, efd, lk, _, _, _⟩ := F_Document_place_before.ex
      exact fun c e => tab_at (p := ("Document", some "place_before")) lk (TB _ List.mem_cons_self) e
    have tb_Node_shown : ∀ c, fd_Node_shown.code = .ref c → TabB base mg c (He.cT K ("Node", some "shown")).2 := by
      obtain ⟨oc, od, dV, kV, doc, pm, an, cdv, ct, osl, efd, lk, _, _, _⟩ := F_Node_shown.ex
      exact fun c e => tab_at (p := ("Node", some "shown")) lk (TB _ (List.mem_cons_of_mem _ List.mem_cons_self)) e
    have tb_order_told : ∀ c, fd_order_told.code = .ref c → TabB base mg c (He.cT K ("order_told", none)).2 := by
      obtain ⟨oc, od, dV, kV, doc, pm, an, cdv, ct, osl, efd, lk, _, _, _⟩ := F_order_told.ex
      exact fun c e => tab_at (p := ("order_told", none)) lk (TB _ (List.mem_cons_of_mem _ (List.mem_cons_of_mem _ (List.mem_cons_of_mem _ List.mem_cons_self)))) e
    have tb_focus_order : ∀ c, fd_focus_order.code = .ref c → TabB base mg c (He.cT K ("focus_order", none)).2 := by
      obtain ⟨oc, od, dV, kV, doc, pm, an, cdv, ct, osl, efd, lk, _, _, _⟩ := F_focus_order.ex
      exact fun c e => tab_at (p := ("focus_order", none)) lk (TB _ (List.mem_cons_of_mem _ (List.mem_cons_of_mem _ List.mem_cons_self))) e
    have k_Node : MakX PL_ w K mg base 1 "Node" (He.ga K "Node") (spD K (cNode K)) [] := by
      obtain ⟨ds, v, b⟩ := bnd_Node F_Node_init
      exact ⟨⟨_, _, _, ds, T.mk_Node, ok_Node T F_Node_init, T.g_Node, b, v⟩⟩
    have m_Node_is_text : MetX PL_ w K mg base 1 (He.ga K "Node") "is_text" (spD K (cIsText K)) [] := ⟨⟨_, _, _, [], T.cl_Node, T.me_Node_is_text, ok_is_text T F_Node_is_text, (F_Node_is_text.bindsN fun _ _ _ _ _ _ us hl => match us, hl with | [_], _ => rfl), .nil⟩⟩
    have m_Node_path : MetX PL_ w K mg base 1 (He.ga K "Node") "path" (spD K (cPath K)) [] := ⟨⟨_, _, _, [], T.cl_Node, T.me_Node_path, ok_path T F_Node_path, (F_Node_path.bindsN fun _ _ _ _ _ _ us hl => match us, hl with | [_], _ => rfl), .nil⟩⟩
    have m_Node_levels_below : MetX PL_ w K mg base 1 (He.ga K "Node") "levels_below" (spD K (cLevels K)) [] := ⟨⟨_, _, _, [], T.cl_Node, T.me_Node_levels_below, ok_levels T F_Node_levels_below, (F_Node_levels_below.bindsN fun _ _ _ _ _ _ us hl => match us, hl with | [_], _ => rfl), .nil⟩⟩
    have m_Node_place_in : MetX PL_ w K mg base 1 (He.ga K "Node") "place_in" (spD K cNever) [] := ⟨⟨_, _, _, [], T.cl_Node, T.me_Node_place_in, no_place_in  F_Node_place_in, (F_Node_place_in.bindsN fun _ _ _ _ _ _ us hl => match us, hl with | [_], _ => rfl), .nil⟩⟩
    have m_Document_make : MetX PL_ w K mg base 3 (He.ga K "Document") "make" (spD K (cMake K)) [] := by
      obtain ⟨ds, v, b⟩ := bnd_make F_Document_make
      exact ⟨⟨_, _, _, ds, T.cl_Document, T.me_Document_make, ok_make T k_Node F_Document_make, b, v⟩⟩
    have m_Document_make_1 : MetX PL_ w K mg base 3 (He.ga K "Document") "make" (spD K (cMake K)) [.str ""] := by
      obtain ⟨ds, v, b⟩ := bnd_make1 F_Document_make
      exact ⟨⟨_, _, _, ds, T.cl_Document, T.me_Document_make, ok_make T k_Node F_Document_make, b, v⟩⟩
    have k_Document : MakX PL_ w K mg base 4 "Document" (He.ga K "Document") (spD K (cDoc K)) [] := ⟨⟨_, _, _, [], T.mk_Document, ok_Document T m_Document_make_1 F_Document_init, T.g_Document, (F_Document_init.bindsN fun _ _ _ _ _ _ us hl => match us, hl with | [_], _ => rfl), .nil⟩⟩
    have m_Document_remove : MetX PL_ w K mg base 3 (He.ga K "Document") "remove" (spD K cNever) [] := ⟨⟨_, _, _, [], T.cl_Document, T.me_Document_remove, no_remove  F_Document_remove, (F_Document_remove.bindsN fun _ _ _ _ _ _ us hl => match us, hl with | [_, _], _ => rfl), .nil⟩⟩
    have m_Document_place_before : MetX PL_ w K mg base 5 (He.ga K "Document") "place_before" (spD K (cPlace K)) [] := ⟨⟨_, _, _, [], T.cl_Document, T.me_Document_place_before, (fun F => ok_place T m_Node_is_text m_Node_path m_Node_levels_below m_Node_place_in m_Document_remove F tb_Document_place_before)  F_Document_place_before, (F_Document_place_before.bindsN fun _ _ _ _ _ _ us hl => match us, hl with | [_, _, _, _], _ => rfl), .nil⟩⟩
    have m_Document_append : MetX PL_ w K mg base 6 (He.ga K "Document") "append" (spD K (cAppend K)) [] := ⟨⟨_, _, _, [], T.cl_Document, T.me_Document_append, ok_append T m_Document_place_before F_Document_append, (F_Document_append.bindsN fun _ _ _ _ _ _ us hl => match us, hl with | [_, _, _], _ => rfl), .nil⟩⟩
    have m_Node_attribute : MetX PL_ w K mg base 1 (He.ga K "Node") "attribute" (spD K (cAttr K)) [] := ⟨⟨_, _, _, [], T.cl_Node, T.me_Node_attribute, ok_attribute T F_Node_attribute, (F_Node_attribute.bindsN fun _ _ _ _ _ _ us hl => match us, hl with | [_, _], _ => rfl), .nil⟩⟩
    have c_start_state : CalX PL_ w K mg base 2 "start_state" (spD K (cState K)) [] := ⟨⟨_, _, _, [], ok_state T m_Node_attribute F_start_state, T.g_start_state, F_start_state.kp, (F_start_state.bindsN fun _ _ _ _ _ _ us hl => match us, hl with | [_], _ => rfl), .nil⟩⟩
    have k_Scanner : MakX PL_ w K mg base 1 "Scanner" (He.ga K "Scanner") (spD K (cScI K)) [] := ⟨⟨_, _, _, [], T.mk_Scanner, ok_Scanner T F_Scanner_init, T.g_Scanner, (F_Scanner_init.bindsN fun _ _ _ _ _ _ us hl => match us, hl with | [_, _], _ => rfl), .nil⟩⟩
    have m_Scanner_here : MetX PL_ w K mg base 1 (He.ga K "Scanner") "here" (spD K (cHere K)) [] := by
      obtain ⟨ds, v, b⟩ := bnd_here F_Scanner_here
      exact ⟨⟨_, _, _, ds, T.cl_Scanner, T.me_Scanner_here, ok_here T F_Scanner_here, b, v⟩⟩
    have m_Scanner_here_1 : MetX PL_ w K mg base 1 (He.ga K "Scanner") "here" (spD K (cHere K)) [.int 1] := by
      obtain ⟨ds, v, b⟩ := bnd_here1 F_Scanner_here
      exact ⟨⟨_, _, _, ds, T.cl_Scanner, T.me_Scanner_here, ok_here T F_Scanner_here, b, v⟩⟩
    have m_Scanner_skip_blanks : MetX PL_ w K mg base 2 (He.ga K "Scanner") "skip_blanks" (spD K (cSkip K)) [] := ⟨⟨_, _, _, [], T.cl_Scanner, T.me_Scanner_skip_blanks, ok_skip T m_Scanner_here_1 F_Scanner_skip_blanks, (F_Scanner_skip_blanks.bindsN fun _ _ _ _ _ _ us hl => match us, hl with | [_], _ => rfl), .nil⟩⟩
    have m_Scanner_read_name : MetX PL_ w K mg base 2 (He.ga K "Scanner") "read_name" (spD K (cName K)) [] := ⟨⟨_, _, _, [], T.cl_Scanner, T.me_Scanner_read_name, ok_name T m_Scanner_here_1 F_Scanner_read_name, (F_Scanner_read_name.bindsN fun _ _ _ _ _ _ us hl => match us, hl with | [_], _ => rfl), .nil⟩⟩
    have m_Scanner_up_to : MetX PL_ w K mg base 1 (He.ga K "Scanner") "up_to" (spD K (cUp K)) [] := ⟨⟨_, _, _, [], T.cl_Scanner, T.me_Scanner_up_to, ok_up T F_Scanner_up_to, (F_Scanner_up_to.bindsN fun _ _ _ _ _ _ us hl => match us, hl with | [_, _], _ => rfl), .nil⟩⟩
    have c_with_entities : CalX PL_ w K mg base 1 "with_entities" (spD K (cWith K)) [] := ⟨⟨_, _, _, [], ok_with T kd_ENTITIES F_with_entities, T.g_with_entities, F_with_entities.kp, (F_with_entities.bindsN fun _ _ _ _ _ _ us hl => match us, hl with | [_], _ => rfl), .nil⟩⟩
    have k_TreeBuilder : MakX PL_ w K mg base 6 "TreeBuilder" (He.ga K "TreeBuilder") (spD K (cTB K)) [] := ⟨⟨_, _, _, [], T.mk_TreeBuilder, ok_tb T k_Scanner k_Document F_TreeBuilder_init, T.g_TreeBuilder, (F_TreeBuilder_init.bindsN fun _ _ _ _ _ _ us hl => match us, hl with | [_, _], _ => rfl), .nil⟩⟩
    have m_TreeBuilder_end_tag : MetX PL_ w K mg base 3 (He.ga K "TreeBuilder") "end_tag" (spD K (cStep K endF)) [] := ⟨⟨_, _, _, [], T.cl_TreeBuilder, T.me_TreeBuilder_end_tag, ok_end_tag T m_Scanner_here_1 m_Scanner_skip_blanks m_Scanner_read_name F_TreeBuilder_end_tag, (F_TreeBuilder_end_tag.bindsN fun _ _ _ _ _ _ us hl => match us, hl with | [_], _ => rfl), .nil⟩⟩
    have m_TreeBuilder_read_attributes : MetX PL_ w K mg base 3 (He.ga K "TreeBuilder") "read_attributes" (spD K (cAttrs K)) [] := ⟨⟨_, _, _, [], T.cl_TreeBuilder, T.me_TreeBuilder_read_attributes, ok_attrs T m_Scanner_here_1 m_Scanner_skip_blanks m_Scanner_read_name m_Scanner_up_to c_with_entities F_TreeBuilder_read_attributes, (F_TreeBuilder_read_attributes.bindsN fun _ _ _ _ _ _ us hl => match us, hl with | [_], _ => rfl), .nil⟩⟩
    have m_TreeBuilder_close_before : MetX PL_ w K mg base 1 (He.ga K "TreeBuilder") "close_before" (spD K (cClose K)) [] := ⟨⟨_, _, _, [], T.cl_TreeBuilder, T.me_TreeBuilder_close_before, ok_close T F_TreeBuilder_close_before, (F_TreeBuilder_close_before.bindsN fun _ _ _ _ _ _ us hl => match us, hl with | [_, _], _ => rfl), .nil⟩⟩
    have m_TreeBuilder_start_tag : MetX PL_ w K mg base 8 (He.ga K "TreeBuilder") "start_tag" (spD K (cStep K startF)) [] := ⟨⟨_, _, _, [], T.cl_TreeBuilder, T.me_TreeBuilder_start_tag, ok_start_tag T m_Scanner_read_name m_Scanner_up_to m_TreeBuilder_read_attributes m_TreeBuilder_close_before m_Document_make m_Document_make_1 m_Document_append c_start_state F_TreeBuilder_start_tag, (F_TreeBuilder_start_tag.bindsN fun _ _ _ _ _ _ us hl => match us, hl with | [_], _ => rfl), .nil⟩⟩
    have m_TreeBuilder_text_run : MetX PL_ w K mg base 8 (He.ga K "TreeBuilder") "text_run" (spD K (cStep K textF)) [] := ⟨⟨_, _, _, [], T.cl_TreeBuilder, T.me_TreeBuilder_text_run, ok_text_run T c_with_entities m_Document_make m_Document_append F_TreeBuilder_text_run, (F_TreeBuilder_text_run.bindsN fun _ _ _ _ _ _ us hl => match us, hl with | [_], _ => rfl), .nil⟩⟩
    have m_TreeBuilder_build : MetX PL_ w K mg base 9 (He.ga K "TreeBuilder") "build" (spD K (cBuild K)) [] := ⟨⟨_, _, _, [], T.cl_TreeBuilder, T.me_TreeBuilder_build, ok_build T m_Scanner_here m_Scanner_here_1 m_Scanner_up_to m_TreeBuilder_end_tag m_TreeBuilder_start_tag m_TreeBuilder_text_run F_TreeBuilder_build, (F_TreeBuilder_build.bindsN fun _ _ _ _ _ _ us hl => match us, hl with | [_], _ => rfl), .nil⟩⟩
    have c_parse_markup : CalX PL_ w K mg base 10 "parse_markup" (spD K (cParse K)) [] := ⟨⟨_, _, _, [], ok_parse T k_TreeBuilder m_TreeBuilder_build F_parse_markup, T.g_parse_markup, F_parse_markup.kp, (F_parse_markup.bindsN fun _ _ _ _ _ _ us hl => match us, hl with | [_], _ => rfl), .nil⟩⟩
    have m_Node_all_nodes : MetX PL_ w K mg base 1 (He.ga K "Node") "all_nodes" (spD K (cAll K)) [] := ⟨⟨_, _, _, [], T.cl_Node, T.me_Node_all_nodes, ok_all T F_Node_all_nodes, (F_Node_all_nodes.bindsN fun _ _ _ _ _ _ us hl => match us, hl with | [_], _ => rfl), .nil⟩⟩
    have m_Node_content : MetX PL_ w K mg base 2 (He.ga K "Node") "content" (spD K (cCont K)) [] := ⟨⟨_, _, _, [], T.cl_Node, T.me_Node_content, ok_content T m_Node_all_nodes m_Node_is_text F_Node_content, (F_Node_content.bindsN fun _ _ _ _ _ _ us hl => match us, hl with | [_], _ => rfl), .nil⟩⟩
    have m_Document_by_id : MetX PL_ w K mg base 2 (He.ga K "Document") "by_id" (spD K (cById K)) [] := ⟨⟨_, _, _, [], T.cl_Document, T.me_Document_by_id, ok_by_id T m_Node_all_nodes m_Node_is_text m_Node_attribute F_Document_by_id, (F_Document_by_id.bindsN fun _ _ _ _ _ _ us hl => match us, hl with | [_, _], _ => rfl), .nil⟩⟩
    have m_Document_node_of : MetX PL_ w K mg base 1 (He.ga K "Document") "node_of" (spD K (cNodeOf K)) [] := ⟨⟨_, _, _, [], T.cl_Document, T.me_Document_node_of, ok_node_of T F_Document_node_of, (F_Document_node_of.bindsN fun _ _ _ _ _ _ us hl => match us, hl with | [_, _], _ => rfl), .nil⟩⟩
    have r_Node_shown : ∀ n, MetX PL_ w K mg base (4 * n + 1) (He.ga K "Node") "shown" (spD K (cShown K n)) [] := fun n => by
      induction n with
      | zero => exact ⟨⟨_, _, _, [], T.cl_Node, T.me_Node_shown, no_shown F_Node_shown, (F_Node_shown.bindsN fun _ _ _ _ _ _ us hl => match us, hl with | [_], _ => rfl), .nil⟩⟩
      | succ n ih => exact ⟨⟨_, _, _, [], T.cl_Node, T.me_Node_shown, ok_shown n T m_Node_is_text ih F_Node_shown tb_Node_shown, (F_Node_shown.bindsN fun _ _ _ _ _ _ us hl => match us, hl with | [_], _ => rfl), .nil⟩⟩
    have m_Node_shown : MetX PL_ w K mg base 33 (He.ga K "Node") "shown" (spD K (cShown K 8)) [] := r_Node_shown 8
    have c_role_of : CalX PL_ w K mg base 2 "role_of" (spD K (cRole K)) [] := ⟨⟨_, _, _, [], ok_role T kd_ROLES m_Node_attribute F_role_of, T.g_role_of, F_role_of.kp, (F_role_of.bindsN fun _ _ _ _ _ _ us hl => match us, hl with | [_], _ => rfl), .nil⟩⟩
    have c_is_left_out : CalX PL_ w K mg base 2 "is_left_out" (spD K (cLeft K)) [] := ⟨⟨_, _, _, [], ok_left T m_Node_path m_Node_attribute F_is_left_out, T.g_is_left_out, F_is_left_out.kp, (F_is_left_out.bindsN fun _ _ _ _ _ _ us hl => match us, hl with | [_], _ => rfl), .nil⟩⟩
    have c_label_for : CalX PL_ w K mg base 3 "label_for" (spD K (cLabel K)) [] := ⟨⟨_, _, _, [], ok_label T m_Node_all_nodes m_Node_is_text m_Node_attribute m_Node_content F_label_for, T.g_label_for, F_label_for.kp, (F_label_for.bindsN fun _ _ _ _ _ _ us hl => match us, hl with | [_, _], _ => rfl), .nil⟩⟩
    have c_order_told : CalX PL_ w K mg base 6 "order_told" (spD K (cOrder K)) [] := ⟨⟨_, _, _, [], (fun F => ok_order T m_Node_attribute F tb_order_told)  F_order_told, T.g_order_told, F_order_told.kp, (F_order_told.bindsN fun _ _ _ _ _ _ us hl => match us, hl with | [_], _ => rfl), .nil⟩⟩
    have c_name_of : CalX PL_ w K mg base 4 "name_of" (spD K (cNam K)) [] := ⟨⟨_, _, _, [], ok_name_of T m_Node_attribute m_Document_by_id m_Node_content c_role_of c_label_for F_name_of, T.g_name_of, F_name_of.kp, (F_name_of.bindsN fun _ _ _ _ _ _ us hl => match us, hl with | [_, _], _ => rfl), .nil⟩⟩
    have c_outline : CalX PL_ w K mg base 5 "outline" (spD K (cOut K)) [] := ⟨⟨_, _, _, [], ok_outline T m_Node_all_nodes m_Node_is_text m_Node_path c_is_left_out c_role_of c_name_of F_outline, T.g_outline, F_outline.kp, (F_outline.bindsN fun _ _ _ _ _ _ us hl => match us, hl with | [_], _ => rfl), .nil⟩⟩
    have c_headings : CalX PL_ w K mg base 5 "headings" (spD K (cHeads K)) [] := ⟨⟨_, _, _, [], ok_heads T m_Node_all_nodes m_Node_is_text c_is_left_out c_role_of c_name_of F_headings, T.g_headings, F_headings.kp, (F_headings.bindsN fun _ _ _ _ _ _ us hl => match us, hl with | [_], _ => rfl), .nil⟩⟩
    have c_focus_order : CalX PL_ w K mg base 7 "focus_order" (spD K (cFoc K)) [] := ⟨⟨_, _, _, [], (fun F => ok_focus T m_Node_all_nodes m_Node_is_text m_Node_attribute c_is_left_out c_role_of c_order_told F tb_focus_order)  F_focus_order, T.g_focus_order, F_focus_order.kp, (F_focus_order.bindsN fun _ _ _ _ _ _ us hl => match us, hl with | [_], _ => rfl), .nil⟩⟩
    have c__law_dice : CalX PL_ w K mg base 1 "_law_dice" (spD K cDice) [] := ⟨⟨_, _, _, [], ok_dice T F_law_dice, T.g__law_dice, F_law_dice.kp, (F_law_dice.bindsN fun _ _ _ _ _ _ us hl => match us, hl with | [_], _ => rfl), .nil⟩⟩
    have c__law_roll : CalX PL_ w K mg base 1 "_law_roll" (spD K Dn.cRoll) [] := ⟨⟨_, _, _, [], ok_roll T F_law_roll, T.g__law_roll, F_law_roll.kp, (F_law_roll.bindsN fun _ _ _ _ _ _ us hl => match us, hl with | [_, _], _ => rfl), .nil⟩⟩
    have c__law_rounds : CalX PL_ w K mg base 2 "_law_rounds" (spD K cRounds) [] := ⟨⟨_, _, _, [], ok_rounds T c__law_dice F_law_rounds, T.g__law_rounds, F_law_rounds.kp, (F_law_rounds.bindsN fun _ _ _ _ _ _ us hl => match us, hl with | [_, _], _ => rfl), .nil⟩⟩
    have r__law_markup : ∀ n, CalX PL_ w K mg base (n + 2) "_law_markup" (spD K (cMk n)) [] := fun n => by
      induction n with
      | zero => exact ⟨⟨_, _, _, [], no_mk F_law_markup, T.g__law_markup, F_law_markup.kp, (F_law_markup.bindsN fun _ _ _ _ _ _ us hl => match us, hl with | [_, _, _], _ => rfl), .nil⟩⟩
      | succ n ih => exact ⟨⟨_, _, _, [], ok_mk n T c__law_roll ih F_law_markup, T.g__law_markup, F_law_markup.kp, (F_law_markup.bindsN fun _ _ _ _ _ _ us hl => match us, hl with | [_, _, _], _ => rfl), .nil⟩⟩
    have c__law_markup : CalX PL_ w K mg base 6 "_law_markup" (spD K (cMk 4)) [] := r__law_markup 4
    have r__law_words : ∀ n, CalX PL_ w K mg base (n + 1) "_law_words" (spD K (cWords n)) [] := fun n => by
      induction n with
      | zero => exact ⟨⟨_, _, _, [], no_words F_law_words, T.g__law_words, F_law_words.kp, (F_law_words.bindsN fun _ _ _ _ _ _ us hl => match us, hl with | [_], _ => rfl), .nil⟩⟩
      | succ n ih => exact ⟨⟨_, _, _, [], ok_words n T ih F_law_words, T.g__law_words, F_law_words.kp, (F_law_words.bindsN fun _ _ _ _ _ _ us hl => match us, hl with | [_], _ => rfl), .nil⟩⟩
    have c__law_words : CalX PL_ w K mg base 9 "_law_words" (spD K (cWords 8)) [] := r__law_words 8
    have r__law_every : ∀ n, CalX PL_ w K mg base (n + 1) "_law_every" (spD K (cEvery n)) [] := fun n => by
      induction n with
      | zero => exact ⟨⟨_, _, _, [], no_every F_law_every, T.g__law_every, F_law_every.kp, (F_law_every.bindsN fun _ _ _ _ _ _ us hl => match us, hl with | [_, _], _ => rfl), .nil⟩⟩
      | succ n ih => exact ⟨⟨_, _, _, [], ok_every n T ih F_law_every, T.g__law_every, F_law_every.kp, (F_law_every.bindsN fun _ _ _ _ _ _ us hl => match us, hl with | [_, _], _ => rfl), .nil⟩⟩
    have c__law_every : CalX PL_ w K mg base 9 "_law_every" (spD K (cEvery 8)) [] := r__law_every 8
    have c__law_role : CalX PL_ w K mg base 1 "_law_role" (spD K cRoleL) [] := ⟨⟨_, _, _, [], ok_roleL T F_law_role, T.g__law_role, F_law_role.kp, (F_law_role.bindsN fun _ _ _ _ _ _ us hl => match us, hl with | [_, _], _ => rfl), .nil⟩⟩
    have c__law_order : CalX PL_ w K mg base 1 "_law_order" (spD K cOrderL) [] := ⟨⟨_, _, _, [], ok_orderL T F_law_order, T.g__law_order, F_law_order.kp, (F_law_order.bindsN fun _ _ _ _ _ _ us hl => match us, hl with | [_], _ => rfl), .nil⟩⟩
    have c__law_name : CalX PL_ w K mg base 11 "_law_name" (spD K cNameL) [] := ⟨⟨_, _, _, [], ok_nameL T c__law_words c__law_role F_law_name, T.g__law_name, F_law_name.kp, (F_law_name.bindsN fun _ _ _ _ _ _ us hl => match us, hl with | [_, _], _ => rfl), .nil⟩⟩
    exact ok_law T ⟨m_Node_all_nodes, m_Node_is_text, m_Node_shown, m_Document_node_of, c_role_of, c_is_left_out, c_name_of, c_label_for, c_order_told, c_outline, c_focus_order, c_headings, c_parse_markup, c__law_roll, c__law_markup, c__law_role, c__law_words, c__law_every, c__law_name, c__law_order⟩ c__law_rounds F_law
end K19
open PySem PySem.W PySem.Calls PyProof.Rows
set_option maxHeartbeats 0 in
theorem PySem.Challenge.cw_pagestack_k19_what_a_page_says_holds : PySem.Challenge.rw_pagestack_k19_what_a_page_says.Holds := by
  w_on; o_law
  refine HandSHeadRun.head_any (r := OpenLaw.row PySem.Challenge.rw_pagestack_k19_what_a_page_says) (q := view (OpenLaw.row PySem.Challenge.rw_pagestack_k19_what_a_page_says).prog [42]) (H := K19.hk) (ob := K19.ob) (M := 20000) (loose := K19.looseN) (d := HandSHeadRun.topDef (OpenLaw.row PySem.Challenge.rw_pagestack_k19_what_a_page_says).prog 42) (kwd := []) K19.ob_eq
    (by kernel_rfl) (fun s => by kernel_rfl) K19.run (by kernel_rfl) (by kernel_rfl) (by kernel_rfl) (by rfl) (by first | assumption | decide +kernel) (by decide +kernel) ⟨rfl, rfl, rfl, rfl, rfl, by decide +kernel⟩ ?hw ?hc
  case hw => w_witness2
  case hc =>
    refine LamX.walk_ofTsE (l := PySem.Challenge.rw_pagestack_k19_what_a_page_says) (n := 63) (k := 45) (x := "script") (CX := fun w => L2.CX PySem.Challenge.rw_pagestack_k19_what_a_page_says.prog w) rfl (by decide) (by kernel_rfl) ⟨rfl, by decide, by decide⟩ ?F (fun w H s e s' z => ?hX)
    case F =>
      intro w mg fa h Y G hmg0
      obtain ⟨K, KX, c⟩ := Y
      have hmg : mg ("law" : PySem.Str) = some (.ref fa) := by
        have e : (HandSHeadRun.topDef (OpenLaw.row PySem.Challenge.rw_pagestack_k19_what_a_page_says).prog 42).name = ("law" : PySem.Str) := by kernel_rfl
        rw [← e]
        exact hmg0
      exact ⟨K, KX, K19.law_at_ w mg fa h KX G hmg c⟩
    case hX =>
      obtain ⟨_, _, _, _, _, _, _, _, _, _, _, _, z⟩ := z
      exact z



