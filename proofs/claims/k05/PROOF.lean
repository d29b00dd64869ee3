import PyProof.Rows.All
import Wide.All
import OpenK.AllK
import Wide.FinOn
import HandS.ForMost
import HandS.ForExc
import HandS.Defaults
import HandS.Lambda
import HandS.EndTab
import HandS.Walk
import HandS.More
import HandS.Conv
import HandS.TupAny
import HandS.Style
import HandS.NoneIn
import HandS.IsInst
import HandS.ListItems
import HandS.Small
import HandS.Nested
import HandS.HeadWalk
import HandS.AnyAll
import HandS.GenList
import PyProof.TupleOfGen
import HandS.Deep
import HandS.Flow
import HandS.StrMore
import HandS.Iter
import HandS.DictComp
import HandS.HeadHook4
import HandS.FStr
import HandS.StrSplit
import HandS.RaiseMore
import KE.KStateDown
import HandS.Head0
import HandS.Head1
import HandS.Head2
import HandS.HeadEnd
import HandS.HeadHook1
import HandS.HeadHook2
import HandS.HeadHook3
import PySem.Challenge.RW_pagestack_k05_lines_that_are_broken
import KE.KIntText
import KE.KWords
import PyProof.StrLawsTight
import HandS.Text
import KE.SortKeyHeap
import KE.SortData
import HandS.ExcValue
import HandS.SortKw
import PyProof.NeKinds
import HandS.Flt
import KE.DataEq
import KE.KDictPairs
import KE.GoesEnum
import HandS.Sort
import HandS.BoundDict
import HandS.Zip
import HandS.SetKeys
import KE.GoesMore
set_option Elab.async false
set_option linter.all false
set_option maxRecDepth 100000
set_option maxHeartbeats 0
namespace Pr
open PySem PySem.Spec PyProof.Rows L2
/-! ## 1. readings, one step each -/
section
variable {K : PySem.W.Frag} {σ : L2.St} {H : Hp} {Q : VK} {v x y : V} {ta tb tc te : TE} {r r' : R2} {i : Nat} {D : Ends} {QB : Bool → Hp → Prop} {QA : List V → Hp → Prop}
/-- statements -/
theorem g_seq {t u : TS} (q : t { D with nx := u D } σ H) : tSeq t u D σ H := q
end
/-! ## 2. tests whose answer is a proposition -/
/-! ## 3. heaps -/
/-- all that H tracks but M is as it was -/
def Kp (M : List Addr) (H H' : Hp) : Prop := ∀ b o, H b = some o → b ∉ M → H' b = some o
section
variable {M M' : List Addr} {H H1 H2 : Hp} {p : Addr} {o : HO}
theorem Kp.refl : Kp M H H := fun _ _ h _ => h
theorem Kp.trans (a : Kp M H H1) (b : Kp M H1 H2) : Kp M H H2 := fun c u h n => b c u (a c u h n) n
theorem Kp.mono (a : Kp M H H1) (h : ∀ b, b ∈ M → b ∈ M' ∨ H b = none) : Kp M' H H1 := fun c u e n => a c u e fun m => by
  rcases h c m with z | z
  · exact n z
  · rw [z] at e; cases e
theorem Kp.new (a : Kp M H H1) (n : H1 p = none) : Kp M H (upd H1 p o) := fun c u e m => by
  have z := a c u e m
  rw [upd_ne (ne_of_none z n)]
  exact z
theorem Kp.mut (a : Kp M H H1) (m : p ∈ M) : Kp M H (upd H1 p o) := fun c u e n => by
  rw [upd_ne fun z => n (by rw [z]; exact m)]
  exact a c u e n
theorem Kp.own (a : Kp M H H1) (n : H p = none) : Kp M H (upd H1 p o) := fun c u e m => by
  rw [upd_ne (ne_of_none e n)]
  exact a c u e m
theorem Kp.same (h : Same H H1) : Kp M H H1 := fun c u e _ => h c u e
theorem Kp.to_same (h : Kp [] H H1) : Same H H1 := fun c u e => h c u e (by simp)
theorem Kp.free (h : Kp [] H H1) (n : H1 p = none) : H p = none := (Kp.to_same h).free n
theorem Kp.seq {K : PySem.W.Frag} {a : Addr} {xs : List V} (h : Kp M H H1) (n : a ∉ M) (q : SqL K H a xs) : SqL K H1 a xs := by
  rcases q with (q | ⟨ob, q⟩) | q
  · exact .inl (.inl (h _ _ q n))
  · exact .inl (.inr ⟨ob, h _ _ q n⟩)
  · exact .inr q
end
/-! ## 4. lists by names (dicts with text keys) -/
section
variable {α : Type}
def aGet (L : List (Str × α)) (k : Str) : Option α := (L.find? fun e => decide (e.1 = k)).map (·.2)
def enc (g : α → V) (L : List (Str × α)) : List (Key × V) := L.map fun e => (Sum.inr e.1, g e.2)
variable {g : α → V}
theorem aGet_mem {L : List (Str × α)} {k : Str} {v : α} (h : aGet L k = some v) : (k, v) ∈ L := by
  unfold aGet at h
  obtain ⟨e, he, rfl⟩ := Option.map_eq_some_iff.mp h
  have h1 := List.mem_of_find?_eq_some he
  have h2 : decide (e.1 = k) = true := List.find?_some (p := fun e : Str × α => decide (e.1 = k)) he
  have h3 : e.1 = k := of_decide_eq_true h2
  rw [← h3]
  exact h1
theorem aGet_none {L : List (Str × α)} {k : Str} : aGet L k = none ↔ ∀ v, (k, v) ∉ L := by
  constructor
  · intro h v m
    unfold aGet at h
    have := List.find?_eq_none.mp (Option.map_eq_none_iff.mp h) _ m
    simp at this
  · intro h
    cases e : aGet L k with
    | none => rfl
    | some v => exact absurd (aGet_mem e) (h v)
end
/-! ## 5. defs that may raise, by their promises -/
section
variable (P : Program) (w : World) (K : PySem.W.Frag) (mg : Str → Option Value) (base : Heap)
/-- a def by its name -/
structure CalX (k : Nat) (x : Str) (sp : Sp) (dvs : List V) : Prop where
  ex : ∃ (f : Addr) (fd : FuncData) (ps : List Str) (ds : List Value), FnOk P w K mg base (L2.CX P w) k f fd ps sp ∧ mg x = some (.ref f) ∧ PySem.W.keepIn K (.ref f) = true ∧ Binds K fd ps ds ∧ Vals dvs ds
/-- a class by its name -/
structure MakX (k : Nat) (x : Str) (C : Addr) (sp : Sp) (dvs : List V) : Prop where
  ex : ∃ (f : Addr) (fd : FuncData) (ps : List Str) (ds : List Value), Mk K C f ∧ FnOk P w K mg base (L2.CX P w) k f fd ps sp ∧ mg x = some (.ref C) ∧ Binds K fd ps ds ∧ Vals dvs ds
/-- a method of a class -/
structure MetX (k : Nat) (C : Addr) (m : Str) (sp : Sp) (dvs : List V) : Prop where
  ex : ∃ (f : Addr) (fd : FuncData) (ps : List Str) (ds : List Value), Cls K C ∧ Meth K C m f ∧ FnOk P w K mg base (L2.CX P w) k f fd ps sp ∧ Binds K fd ps ds ∧ Vals dvs ds
end
section
variable {X : Cx} {k j : Nat} {x m : Str} {C : Addr} {sp : Sp} {dvs : List V} {E : XK} {p pos apos : Pos} {e o : Expr} {es : List Expr} {t : TA} {ta : TE}
theorem pe_cX (c : CalX X.prog X.w X.K X.mg X.base k x sp dvs) (hr : Room j X.A) (hk : k ≤ j) (hg : Gl X x) (hx : Passes (L2.CX X.prog X.w) X E) (ha : PA X (e :: es) t) (hdb : (x == ("__debug__" : Str)) = false := by decide)
    (he : starEach (e :: es) X.env = (false, eval e X.env) :: starEach es X.env := by rfl) (hpl : (backTo pos (starEach es X.env)).any (·.1) = false := by rfl) : PE X (.Call (.Name x p) (e :: es) [] pos) (tCall sp dvs E t) := by
  obtain ⟨f, fd, ps, ds, F, hm, kp, hb, hd⟩ := c.ex
  exact pe_call F (hr.mono hk) hg hm kp hb hd hx ha hdb he hpl
theorem pe_mkX (c : MakX X.prog X.w X.K X.mg X.base k x C sp dvs) (hr : Room j X.A) (hk : k + 1 ≤ j) (hg : Gl X x) (hx : Passes (L2.CX X.prog X.w) X E) (ha : PA X (e :: es) t) (hdb : (x == ("__debug__" : Str)) = false := by decide)
    (he : starEach (e :: es) X.env = (false, eval e X.env) :: starEach es X.env := by rfl) (hpl : (backTo pos (starEach es X.env)).any (·.1) = false := by rfl) : PE X (.Call (.Name x p) (e :: es) [] pos) (tMake C sp dvs E t) := by
  obtain ⟨f, fd, ps, ds, M, F, hm, hb, hd⟩ := c.ex
  exact pe_make M F (hr.mono hk) hg hm hb hd hx ha hdb he hpl
theorem pe_mkX0 (c : MakX X.prog X.w X.K X.mg X.base k x C sp dvs) (hr : Room j X.A) (hk : k + 1 ≤ j) (hg : Gl X x) (hx : Passes (L2.CX X.prog X.w) X E) (hdb : (x == ("__debug__" : Str)) = false := by decide) : PE X (.Call (.Name x p) [] [] pos) (tMake C sp dvs E tNil) := by
  obtain ⟨f, fd, ps, ds, M, F, hm, hb, hd⟩ := c.ex
  exact pe_make0 M F (hr.mono hk) hg hm hb hd hx hdb
theorem pe_mX {pl : Sem Bool} (c : MetX X.prog X.w X.K X.mg X.base k C m sp dvs) (hr : Room j X.A) (hk : k ≤ j) (hx : Passes (L2.CX X.prog X.w) X E) (he : PE X o ta) (ha : PA X (e :: es) t)
    (hst : starEach (e :: es) X.env = (false, eval e X.env) :: starEach es X.env := by rfl) (hpl : (backTo pos (starEach es X.env)).any (·.1) = false := by rfl)
    (ht : eval (.Call (.Attribute o m apos) (e :: es) [] pos) X.env = (do
      let ov ← eval o X.env
      standAt apos.atName
      let (f, first) ← holding [ov] (getMethod ov m pl)
      callWith pos f first (backTo pos (starEach (e :: es) X.env)) (backToKw pos (keywordEach [] X.env))) := by rfl) :
    PE X (.Call (.Attribute o m apos) (e :: es) [] pos) (tMeth C m sp dvs E ta t) := by
  obtain ⟨f, fd, ps, ds, c1, M, F, hb, hd⟩ := c.ex
  exact pe_meth he c1 M F (hr.mono hk) hb hd hx ha hst hpl ht
theorem pe_mX0 {pl : Sem Bool} (c : MetX X.prog X.w X.K X.mg X.base k C m sp dvs) (hr : Room j X.A) (hk : k ≤ j) (hx : Passes (L2.CX X.prog X.w) X E) (he : PE X o ta)
    (ht : eval (.Call (.Attribute o m apos) [] [] pos) X.env = (do
      let ov ← eval o X.env
      standAt apos.atName
      let (f, first) ← holding [ov] (getMethod ov m pl)
      callWith pos f first (backTo pos (starEach [] X.env)) (backToKw pos (keywordEach [] X.env))) := by rfl) :
    PE X (.Call (.Attribute o m apos) [] [] pos) (tMeth C m sp dvs E ta tNil) := by
  obtain ⟨f, fd, ps, ds, c1, M, F, hb, hd⟩ := c.ex
  exact pe_meth0 he c1 M F (hr.mono hk) hb hd hx ht
end
/-! ## 6. the context of a def that may raise -/
section
variable {P : Program} {w : World} {K : PySem.W.Frag} {mg : Str → Option Value} {base : Heap} {N : List Str} {qual : Str} {scope : Scope} {f : Addr} {cd : Value} {A : Around} {outer : List Env} {s : Shared} {H : Hp} {E : XK}
theorem tkX : Takes (cxOf (L2.CX P w) P w K mg base N qual scope f cd A outer s H E) (fun cls d _ H => E cls d H) := takes_of rfl rfl rfl rfl
theorem paX : Passes (L2.CX P w) (cxOf (L2.CX P w) P w K mg base N qual scope f cd A outer s H E) E := passes_call tkX fun _ _ _ _ z => z
theorem poX : PassesOwn (model P w) (A.deeper (envOfC qual scope s.heap.objs.size f cd)) (cxOf (L2.CX P w) P w K mg base N qual scope f cd A outer s H E).env (cxOf (L2.CX P w) P w K mg base N qual scope f cd A outer s H E).xe := passes_of rfl
end
theorem hU_of {A : Around} {k : Nat} (hr : Room k A) : A.units + 64 < cLine := by
  have := hr.un
  omega
/-! ## 7. the rules with the written part said (K), readings by names -/
section
variable {X : Cx} {K : PySem.W.Frag} {e o a b l value : Expr} {es : List Expr} {f : Str} {pos pos' tpos p : Pos} {ta tv tb te tl : TE} {tg : Expr} {t : TA}
theorem pe_fldK (hK : X.K = K) (he : PE X e ta) (hb : attributeBase e f X.env (eval e X.env) = eval e X.env) : PE X (.Attribute e f pos) (tFld K ta f) := by
  subst hK; exact pe_fld he hb
theorem ps_fldK (hK : X.K = K) (ha : PE X o ta) (hv : PE X value tv) (hs : swapsWith value (some (.Attribute o f pos')) pos.line X.env = pure false) : PS X (.Assign [.Attribute o f pos'] value pos) (sFld K ta tv f) := by
  subst hK; exact ps_fld ha hv hs
theorem ps_fldaugK {op : Operator} {rd : V → V → Hp → VK → Prop} (hK : X.K = K) (ha : PE X o ta) (hv : PE X value tv) (hop : InOp X op rd) : PS X (.AugAssign (.Attribute o f tpos) op value pos) (sFldAug K ta tv rd f) := by
  subst hK; exact ps_fldaug ha hv hop
def tTruK (K : PySem.W.Frag) (ta : TE) : TT := fun σ H Q => ta σ H fun x H' => ∃ k, TruV K x H' k ∧ Q k H'
theorem pt_truthK (hK : X.K = K) (ha : PE X a ta) (he : ∀ whole, isTrue a X.env whole = (do let v ← whole; standAt a.pos; holding [v] (truthy v))) : PT X a (tTruK K ta) := by
  subst hK; exact pt_truth ha he
theorem pi_listK (hK : X.K = K) (hl : PE X l tl) : PI X tg l (iList K tl) := by subst hK; exact pi_list hl
def rAbs : List V → Hp → VK → Prop := fun xs H Q => ∃ i, xs = [.int i] ∧ Q (.int (if i < 0 then -i else i)) H
theorem call_absN : CallR X (.builtin "abs") rAbs := call_abs
def rMax2 : List V → Hp → VK → Prop := fun xs H Q => ∃ i j, xs = [.int i, .int j] ∧ Q (.int (if j > i then j else i)) H
theorem call_max2N (hc : X.calm = true) : CallR X (.builtin "max") rMax2 := call_max2 hc
def rInt1 : List V → Hp → VK → Prop := fun xs H Q => (∃ i, xs = [.int i] ∧ Q (.int i) H) ∨ ∃ k, xs = [.bl k] ∧ Q (.int (if k then 1 else 0)) H
theorem call_int1N : CallR X (.type "int") rInt1 := call_int1
end
/-! ## 8. their readings -/
section
variable {K : PySem.W.Frag} {σ : L2.St} {H : Hp} {Q : VK} {v x y : V} {ta tb tc te td ty tx : TE} {i : Nat} {D : Ends} {QB : Bool → Hp → Prop} {a : Addr} {kvs : List (Key × V)} {k : Key}
theorem g_max {i j : Int} (q : Q (.int (max i j)) H) : rMax2 [.int i, .int j] H Q := ⟨i, j, rfl, by
  have e : (if j > i then j else i) = max i j := by
    rw [Int.max_def]
    split <;> split <;> omega
  rw [e]
  exact q⟩
end
/-! ## 9. comprehensions -/
section
variable {K : PySem.W.Frag} {σ : L2.St} {H H1 : Hp} {Q : VK} {D a : Addr} {tl td : TE} {tt : TT} {te : TE} {i0 : Nat}
end
/-! ## 10. slices, flat data, order of texts -/
section
variable {K : PySem.W.Frag} {σ : L2.St} {H : Hp} {Q : VK} {a : Addr} {te : TE}
end
/-! ## 11. written dicts -/
section
variable {σ : L2.St} {H : Hp} {Q : VK} {tk tv : TE} {r : List (TE × TE)} {R : List (V × V) → Hp → Prop}
end
/-! ## 12. lists by names whose values stand at addresses -/
section
variable {β : Type}
def pr (L : List (Str × (Addr × β))) : List (Str × β) := L.map fun e => (e.1, e.2.2)
end
section
variable {H : Hp} {Q : VK} {v : V} {a : Addr} {kvs : List (Key × V)} {z : Str}
end
theorem szl {n : Nat} (h : n ≤ 10000) : n ≤ sizeLine := by rw [sizeLine_eq]; omega
/-- what is not of a frame's kinds -/
theorem Kp.get {M : List Addr} {H H' : Hp} {a : Addr} {o : HO} (k : Kp M H H') (h : H a = some o) (n : ∀ b ∈ M, H b ≠ some o) : H' a = some o := k _ _ h fun m => n a m h
/-! ## 13. for -/
section
variable {K : PySem.W.Frag} {σ : L2.St} {H : Hp} {v x y : V} {ta tv te td tl ty : TE} {D : Ends} {g : TG} {tb : TS} {a : Addr} {i0 : Nat} {f : Str}
end
/-! ## 14. more of lists and dicts -/
section
variable {K : PySem.W.Frag} {σ : L2.St} {H : Hp} {Q : VK} {a b : Addr} {td : TE} {xs zs : List V} {i0 : Nat} {D : Ends} {tb : TS}
end
/-- a value of the module's top -/
theorem pe_gcI {X : Cx} {x : Str} {v : V} {pos : Pos} (hg : Gl X x) (hm : ∃ u, X.mg x = some u ∧ RelV v u) (hd : (x == ("__debug__" : Str)) = false := by decide) : PE X (.Name x pos) (tC v) := by
  obtain ⟨u, hm, r⟩ := hm
  exact pe_glob hg hm r hd
section
variable {K : PySem.W.Frag} {σ : L2.St} {H : Hp} {Q : VK} {to : TE} {t : TA} {T : String} {r : V → List V → Hp → VK → Prop} {l : Addr} {xs : List V} {x y : V}
end
end Pr

/-! lambdas kept in a list, called later -/
namespace Pr
open PySem PySem.Spec PyProof.Rows L2 LamX NdefX
/-- the object at f is the lambda F with the body e -/
def LmO (f : Addr) (F : NF) (e : Expr) : HO := .ext fun h => ∃ (od : Option Addr) (sl : Array (Option Value)) (pm ctv : Value), h.get? f = some (⟨.type "function", od, .func (PySem.W.kla_fn F.name F.qual F.params e F.scope F.cl pm (.ref F.c) ctv), sl⟩ : Obj)
section
variable {X : Cx} {pins : List (Addr × Obj)} {σ : L2.St} {H : Hp} {s : Shared}
theorem ext_new {H' : Hp} {b : Addr} {o : HO} (e : ExtN H H') (n : H' b = none) : ExtN H (upd H' b o) := fun c u z q => (upd_ne (ne_of_none (e c u z q) n)).trans (e c u z q)
end
/-- what a lambda promises when it is called without arguments: ws tells its captured cells -/
structure LOk (P : Program) (w : World) (K : PySem.W.Frag) (mg : Str → Option Value) (base : Heap) (k : Nat) (f : Addr) (F : NF) (e : Expr) (fr : List Str) (sp : List (Option V) → Hp → VK → XK → Prop) : Prop where
  run : ∀ (A : Around) (outer : List Env) (s : Shared) (H : Hp) (ws : List (Option V)) (Q : VK) (E : XK), Room k A → Env0 P w K mg base A outer s H → H f = some (LmO f F e) → H F.c = some (CodeO F.c F.qual) → CellsAt F.cl fr ws s.heap H → sp ws H Q E →
    codeAny (model P w) A (.call (.ref f) ⟨[], []⟩) (CR (L2.CX P w) outer P w H s Q E) s
section
variable {P : Program} {w : World} {K : PySem.W.Frag} {mg : Str → Option Value} {base : Heap} {k j : Nat} {f : Addr} {F : NF} {e : Expr} {fr N : List Str} {sp : List (Option V) → Hp → VK → XK → Prop}
theorem LOk.mono (o : LOk P w K mg base k f F e fr sp) (h : k ≤ j) : LOk P w K mg base j f F e fr sp := ⟨fun A outer s H ws Q E hr => o.run A outer s H ws Q E (hr.mono h)⟩
end
section
variable {X : Cx} {pins : List (Addr × Obj)} {σ : L2.St} {H : Hp} {s : Shared} {cl : List (Str × Addr)} {fr : List Str} {ws : List (Option V)}
end
end Pr

/-! a list comprehension whose test may lean on the frame's own cells -/
namespace Pr
open PySem PySem.Spec PyProof.Rows L2 LamX NdefX
section
variable {X : Cx}
end
end Pr

open PySem PySem.Spec PyProof.Rows L2
/-! shared lemmas that began in k18's parts -/
namespace Pr
end Pr
namespace Pr
open LamX NdefX
end Pr
namespace Pr
end Pr
namespace Pr
section
variable {H : Hp}
end
end Pr
namespace Pr
end Pr

/-! sum(.. for k, v in d.items()) -/
namespace Pr
open PySem PySem.Spec PyProof.Rows L2
section
variable {prog : Program} {w : World} {A : Around}
end
section
variable {X : Cx}
end
section
variable {prog : Program} {w : World} {A : Around} {E : Value → Shared → Prop} {s : Shared} {cenv : Env} {x a : Str} {t : Tok} {m mg mb : Str → Option Value} {Q : Value → Shared → Prop} {p1 p2 p3 : Pos}
end
end Pr

/-! lambdas whose making changes their own table alone -/
namespace Pr
open PySem PySem.Spec PyProof.Rows L2 LamX NdefX
/-- the table at P has grown, all else stays -/
def OnlyT (P : Addr) (H H' : Hp) : Prop := ∀ b o, H b = some o → b ≠ P → H' b = some o
section
variable {X : Cx} {pins : List (Addr × Obj)} {σ : L2.St} {H : Hp} {s : Shared}
end
end Pr

/-! generator expressions whose elements may call, make, change things -/
namespace Pr
open PySem PySem.Spec PyProof.Rows L2 LamX NdefX
/-- a code object that was made within a run, its table at P -/
def GCode (c P : Addr) : HO := .ext fun h => PySem.W.CodeHd h c P
/-- the table of such a code object, while nobody looks into it -/
def GTabO (P : Addr) : HO := .ext fun h => ∃ ps : Array Value, h.get? P = some { cls := .none, data := .fields ps } ∧ TriplesOk ps.toList
/-- the context of a generator's body -/
abbrev gnC (X : Cx) (s : Shared) (H : Hp) (A' : Around) (cenv : Env) (fp : List Addr) : Cx :=
  { X with A := A', s_0 := s, H_0 := H, env := cenv, outer := X.stack, stack := cenv :: X.stack, ex := fp, fn := fun x => cenv.scope.names.lookup x == some .cell, calm := true, pn := [], xe := fun _ _ => False }
/-- the generator expression's scope -/
structure GnOk (N : List Str) (sc scope : Scope) (own : List (Str × Nat)) : Prop where
  kind : scope.kind = .function
  co : scope.isCoroutine = false
  dot : scope.names.lookup (".0" : Str) = some NameKind.local
  uniq : ∀ y ∈ scope.names, scope.names.lookup y.1 = some y.2
  ix : ∀ p ∈ own, N[p.2]? = some p.1
  free : ∀ y ∈ scope.names, y.2 = .free → sc.names.lookup y.1 = some .cell ∨ sc.names.lookup y.1 = some .free
  own : ∀ y ∈ scope.names, y.2 = .local ∨ y.2 = .cell → y.1 ∈ own.map (·.1) ∨ y.1 ∉ N
def gnB (N : List Str) (sc scope : Scope) (own : List (Str × Nat)) : Bool :=
  decide (scope.kind = .function) && !scope.isCoroutine && decide (scope.names.lookup (".0" : Str) = some NameKind.local) && (scope.names.all fun y => decide (scope.names.lookup y.1 = some y.2)) && (own.all fun p => decide (N[p.2]? = some p.1)) &&
    (scope.names.all fun y => !decide (y.2 = .free) || decide (sc.names.lookup y.1 = some .cell) || decide (sc.names.lookup y.1 = some .free)) && (scope.names.all fun y => (!decide (y.2 = .local) && !decide (y.2 = .cell)) || decide (y.1 ∈ own.map (·.1)) || decide (y.1 ∉ N))
theorem gnOk_by {N : List Str} {sc scope : Scope} {own : List (Str × Nat)} (h : gnB N sc scope own = true) : GnOk N sc scope own := by
  unfold gnB at h
  simp only [Bool.and_eq_true, List.all_eq_true, decide_eq_true_eq, Bool.not_eq_true', decide_eq_false_iff_not, Bool.or_eq_true] at h
  obtain ⟨⟨⟨⟨⟨⟨h1, h2⟩, h4⟩, h5⟩, h6⟩, h7⟩, h8⟩ := h
  refine ⟨h1, h2, h4, h5, h6, fun y hy e => ?_, fun y hy e => ?_⟩
  · rcases h7 y hy with (z | z) | z
    · exact absurd e z
    · exact .inl z
    · exact .inr z
  · rcases h8 y hy with (z | z) | z
    · exact e.elim (fun e => absurd e z.1) fun e => absurd e z.2
    · exact .inl z
    · exact .inr z
section
variable {X : Cx} {pins : List (Addr × Obj)} {σ : L2.St} {H : Hp} {s : Shared}
theorem gn_start {scope : Scope} {own : List (Str × Nat)} {fp : List Addr} {A' : Around} {code : Value} {h' : Heap} {m' : Str → Option Value} {gp : List (Addr × Obj)} {g' : Array GenState} {t' : Nat} (I : Inv X pins σ H s) (ok : GnOk X.N X.env.scope scope own) (hN : X.N.Nodup) (hfp : ∀ b ∈ fp, FpOk X pins H b ∧ b < s.heap.objs.size)
    (hA : A'.frames = some (genEnv scope (cellsFrom (s.heap.objs.size + 1) scope.names (cloFrom X.env.cells scope.names [])) s.heap.objs.size code builtinsNs X.env :: X.stack)) (hh : A'.handled = none) (hns : h'.Ns s.heap.objs.size m') (kp : ∀ b o, s.heap.get? b = some o → h'.get? b = some o) (hg : AllBare g')
    (kc : ∀ b o, b ≠ s.heap.objs.size → (pushCells (s.heap.push { cls := .type "frame", data := .dict #[] }) scope.names).get? b = some o → h'.get? b = some o) (hp : ∀ p ∈ gp, h'.get? p.1 = some p.2 ∧ s.heap.objs.size < p.1 ∧ ∀ v, p.2.data ≠ .cell v) :
    Inv (gnC X s H A' (genEnv scope (cellsFrom (s.heap.objs.size + 1) scope.names (cloFrom X.env.cells scope.names [])) s.heap.objs.size code builtinsNs X.env) fp) gp (wipe σ (own.map (·.2))) H { s with heap := h', gens := g', toks := t' } := by
  have hfree : ∀ y ∈ scope.names, y.2 = .free → ∃ c, X.env.cells.lookup y.1 = some c := fun y hy e => by
    rcases ok.free y hy e with k | k
    · exact I.ok.has _ (.inl k)
    · exact I.ok.has _ (.inr k)
  generalize hcenv : genEnv scope (cellsFrom (s.heap.objs.size + 1) scope.names (cloFrom X.env.cells scope.names [])) s.heap.objs.size code builtinsNs X.env = cenv at hA ⊢
  have hL : cenv.locals = s.heap.objs.size := by rw [← hcenv]; rfl
  have hcl : cenv.cells = cellsFrom (s.heap.objs.size + 1) scope.names (cloFrom X.env.cells scope.names []) := by rw [← hcenv]; rfl
  have hsc : cenv.scope = scope := by rw [← hcenv]; rfl
  rw [← Heap.size_push s.heap { cls := .type "frame", data := .dict #[] }] at hcl
  have cm : ∀ {y c}, (y, c) ∈ cloFrom X.env.cells scope.names [] → X.env.cells.lookup y = some c ∧ c < s.heap.objs.size := fun {y c} hm => by
    rcases cloFrom_mem hm with hm | ⟨h1, rfl⟩
    · cases hm
    · obtain ⟨c, hc⟩ := hfree _ h1 rfl
      rw [hc]
      obtain ⟨w, z⟩ := I.cell _ _ hc
      exact ⟨rfl, z.lt⟩
  have mem : ∀ {y c}, cenv.cells.lookup y = some c → (X.env.cells.lookup y = some c ∧ c < s.heap.objs.size) ∨ (s.heap.objs.size + 1 ≤ c ∧ CellAt h' c none) := fun {y c} e => by
    rw [hcl] at e
    rcases cells_mem (PySem.mem_of_lookup e) with hm | ⟨_, h2, h3⟩
    · exact .inl (cm hm)
    · rw [Heap.size_push] at h2
      obtain ⟨o, q1, q2⟩ := h3
      exact .inr ⟨h2, o, kc c o (Nat.ne_of_gt h2) q1, q2⟩
  have look : ∀ {y}, scope.names.lookup y = some .free → ∃ c, cenv.cells.lookup y = some c ∧ X.env.cells.lookup y = some c := fun {y} hl => by
    have hy : (y, NameKind.free) ∈ scope.names := PySem.mem_of_lookup hl
    obtain ⟨c', e'⟩ := mem_lookup (cells_acc (names := scope.names) (n := (s.heap.push { cls := .type "frame", data := .dict #[] }).objs.size) (cloFrom_has (cells := X.env.cells) (acc := []) hy))
    rw [← hcl] at e'
    refine ⟨c', e', ?_⟩
    rw [hcl] at e'
    rcases cells_mem (PySem.mem_of_lookup e') with hm | ⟨h1, _, _⟩
    · exact (cm hm).1
    · have := ok.uniq _ h1
      rw [hl] at this; cases this
  have okB : (gnC X s H A' cenv fp).Ok := by
    refine ⟨I.ok.mod, by show cenv.scope.kind = _; rw [hsc]; exact ok.kind, by show cenv.globals = _; rw [← hcenv]; exact I.ok.glob, by show cenv.builtins = _; rw [← hcenv]; rfl, by show s.heap.objs.size ≤ cenv.locals; rw [hL]; exact Nat.le_refl _,
      fun y z c e1 e2 => ?_, fun y hy => ?_, fun y c z e => ?_, fun _ => hh, hA, .inr ⟨rfl, ?_⟩, fun b hb => ⟨?_, fun y c e z => ?_⟩, I.bs, Nat.le_trans I.ok.bsz I.sz, fun b o e hb => ?_, fun b hb z => ?_, I.stack, I.stkFree⟩
    · have e1 : cenv.cells.lookup y = some c := e1
      have e2 : cenv.cells.lookup z = some c := e2
      rw [hcl] at e1 e2
      refine cells_inj (fun p hp => ?_) (fun y z c a b => I.ok.inj y z c (cm a).1 (cm b).1) (PySem.mem_of_lookup e1) (PySem.mem_of_lookup e2)
      rw [Heap.size_push]
      exact Nat.lt_succ_of_lt (cm (y := p.1) (c := p.2) hp).2
    · show ∃ c, cenv.cells.lookup y = some c
      have hy : cenv.scope.names.lookup y = some .cell ∨ cenv.scope.names.lookup y = some .free := hy
      rw [hsc] at hy
      rcases hy with hy | hy
      · obtain ⟨c, hm⟩ := cells_has (n := (s.heap.push { cls := .type "frame", data := .dict #[] }).objs.size) (acc := cloFrom X.env.cells scope.names []) (PySem.mem_of_lookup hy)
        obtain ⟨c', e'⟩ := mem_lookup hm
        exact ⟨c', by rw [hcl]; exact e'⟩
      · obtain ⟨c, h1, _⟩ := look hy
        exact ⟨c, h1⟩
    · have z : (cenv.scope.names.lookup y == some NameKind.cell) = true := z
      have z : scope.names.lookup y = some .cell := by rw [hsc] at z; simpa using z
      have e : cenv.cells.lookup y = some c := e
      rw [hcl] at e
      rcases cells_mem (PySem.mem_of_lookup e) with hm | ⟨_, h2, _⟩
      · rcases cloFrom_mem hm with hm | ⟨h1, _⟩
        · cases hm
        · have q := ok.uniq _ h1
          rw [z] at q; cases q
      · rw [Heap.size_push] at h2
        exact Nat.le_of_succ_le h2
    · show cenv.frame = some cenv.locals
      rw [← hcenv]; rfl
    · show b ≠ cenv.locals
      rw [hL]; exact Nat.ne_of_lt (hfp b hb).2
    · have e : cenv.cells.lookup y = some c := e
      rcases mem e with ⟨h1, _⟩ | ⟨h1, _⟩
      · exact (hfp b hb).1.2.2.2.2.1 y c h1 z
      · have h2 : s.heap.objs.size + 1 ≤ b := by rw [← z]; exact h1
        exact absurd (Nat.lt_of_lt_of_le (hfp b hb).2 (Nat.le_of_succ_le h2)) (Nat.lt_irrefl _)
    · rcases (hfp b hb).1.2.2.2.1 with z | z
      · exact I.ok.noex b o e z
      · exact absurd (Nat.lt_of_lt_of_le (Heap.lt_size e) (Nat.le_trans I.ok.bsz z)) (Nat.lt_irrefl _)
    · rcases List.mem_cons.mp (I.stkSub b z) with z | z
      · exact (hfp b hb).1.2.1 z
      · exact (hfp b hb).1.2.2.1 z
  refine ⟨okB, rfl, hg, Un.kept kp, ⟨m', by show Heap.Ns _ cenv.locals _; rw [hL]; exact hns, fun i y av e1 e2 e3 => ?_⟩, fun y c e => ?_, ?_, fun y c e => ?_, fun p hpm => ?_, I.hok.kept kp, by rw [wipe_length]; exact I.len⟩
  · obtain ⟨e2, hne⟩ := wipe_some e2
    have no : ∀ k', scope.names.lookup y = some k' → ¬ (k' = .local ∨ k' = .cell) := fun k' e hh => by
      rcases ok.own _ (PySem.mem_of_lookup e) hh with e' | e'
      · obtain ⟨p, hp, hpy⟩ := List.mem_map.mp e'
        have e3 := ok.ix p hp
        have : p.1 = y := hpy
        rw [this] at e3
        exact hne (List.mem_map.mpr ⟨p, hp, nodup_ix hN e3 e1⟩)
      · exact e' (List.mem_of_getElem? e1)
    have hfr : scope.names.lookup y = some .free := by
      have e3 : Vis cenv.scope y := e3
      rw [hsc] at e3
      rcases e3 with e3 | e3 | e3
      · exact absurd (.inl rfl) (no _ e3)
      · exact absurd (.inr rfl) (no _ e3)
      · exact e3
    obtain ⟨m, hn, hl⟩ := I.loc
    have hvis : Vis X.env.scope y := (ok.free _ (PySem.mem_of_lookup hfr) rfl).elim (fun k => .inr (.inl k)) (fun k => .inr (.inr k))
    obtain ⟨w, r, q⟩ := hl i y av e1 e2 hvis
    refine ⟨w, r, .inr ⟨.inr (by show cenv.scope.names.lookup y = _; rw [hsc]; exact hfr), ?_⟩⟩
    obtain ⟨c, h1, h2⟩ := look hfr
    rcases q with ⟨k, _⟩ | ⟨_, c', e', z⟩
    · have k : X.env.scope.names.lookup y = some .local := k
      rcases ok.free _ (PySem.mem_of_lookup hfr) rfl with k' | k' <;> rw [show X.env.scope.names.lookup y = _ from k'] at k <;> cases k
    · rw [h2] at e'; cases e'
      exact ⟨c, h1, z.keeps kp⟩
  · have e : cenv.cells.lookup y = some c := e
    rcases mem e with ⟨h1, _⟩ | ⟨_, z⟩
    · obtain ⟨w, z⟩ := I.cell y c h1
      exact ⟨w, z.keeps kp⟩
    · exact ⟨_, z⟩
  · show H cenv.locals = none
    rw [hL]; exact I.hok.fresh (Nat.le_refl _)
  · have e : cenv.cells.lookup y = some c := e
    rcases mem e with ⟨h1, _⟩ | ⟨h1, _⟩
    · exact I.freeC y c h1
    · exact I.hok.fresh (Nat.le_of_succ_le h1)
  · have hpm : p ∈ gp := (List.mem_append.mp hpm).elim (fun z => absurd z (by simp)) id
    obtain ⟨q1, q2, q3⟩ := hp p hpm
    refine ⟨q1, I.hok.fresh (Nat.le_of_lt q2), by show p.1 ≠ cenv.locals; rw [hL]; exact Nat.ne_of_gt q2, fun z => ?_, q3⟩
    obtain ⟨_, o, ho, _⟩ := I.stack.mem z
    exact absurd (Nat.lt_trans q2 (Heap.lt_size ho)) (Nat.lt_irrefl _)
end
/-- a value kept in a slot that no name of the body sees -/
def ghost : Option Nat → Value → L2.St → L2.St
  | some i, .ref c, σ => σ.set i (some (.ref c))
  | _, _, σ => σ
theorem ghost_ok {B : Cx} {gp : List (Addr × Obj)} {σ : L2.St} {H : Hp} {s : Shared} (I : Inv B gp σ H s) (ig : Option Nat) (v : Value) (hg : ∀ i, ig = some i → ∀ x, B.N[i]? = some x → ¬ Vis B.env.scope x) : Inv B gp (ghost ig v σ) H s := by
  unfold ghost
  split
  · rename_i i c
    refine ⟨I.ok, I.os, I.bare, I.base, let ⟨m, hn, hl'⟩ := I.loc; ⟨m, hn, fun j x v e1 e2 e3 => ?_⟩, I.cell, I.free, I.freeC, I.pin, I.hok, by rw [List.length_set]; exact I.len⟩
    by_cases hj : i = j
    · subst hj
      exact absurd e3 (hg i rfl x e1)
    · rw [List.getElem?_set_ne hj] at e2
      exact hl' j x v e1 e2 e3
  · exact I
/-! ## the turns -/
/-- how a generator expression's turns go: J its walk, C what its consumer does with an element, F the end -/
def TnW (J : It) (g : TG) (tt : TT) (te : TE) (vs : List Nat) (σw : L2.St) (C : V → Hp → (Hp → Prop) → Prop) (F : Hp → Prop) (W : Nat → Nat → Hp → Prop) : Prop := ∀ i m H, W i m H →
  (J.stop i H ∧ F H) ∨ (J.go i H ∧ ∃ Nx : Hp → Prop, (∀ H', Nx H' → ∃ m', m' < m ∧ W (i + 1) m' H') ∧ ∀ x H', J.yld i H x H' → g x σw H' fun σ2 H2 => wipe σ2 vs = σw ∧ tt σ2 H2 fun b H3 => if b = true then te σ2 H3 fun y H4 => C y H4 Nx else Nx H3)
def GnY (B : Cx) (gp : List (Addr × Obj)) (fp : List Addr) (tn : Nat → Heap → Prop) (σw : L2.St) (C : V → Hp → (Hp → Prop) → Prop) : Protocol := fun n s₀ v s kap =>
  ∃ y G Nx i, RelV y v ∧ Inv B gp σw G s ∧ tn i s.heap ∧ (∀ b ∈ fp, G b = none) ∧ C y G Nx ∧ ∀ s' G', Inv B gp σw G' s' → tn i s'.heap → (∀ b ∈ fp, G' b = none) → Nx G' → kap (.send .none) s'
def GnR (B : Cx) (gp : List (Addr × Obj)) (fp : List Addr) (σw : L2.St) (F : Hp → Prop) : Nat → Shared → Shared → Prop := fun n s₀ s => ∃ G, Inv B gp σw G s ∧ (∀ b ∈ fp, G b = none) ∧ F G
section
variable {B : Cx} {gp : List (Addr × Obj)} {fp : List Addr} {tn : Nat → Heap → Prop} {σw : L2.St} {vs : List Nat} {C : V → Hp → (Hp → Prop) → Prop} {F : Hp → Prop} {J : It} {g : TG} {tt : TT} {te : TE} {W : Nat → Nat → Hp → Prop} {A₁ : Around} {elt tg iter : Expr} {ifs : List Expr} {scope : Scope} {pos : Pos} {it : Addr}
theorem seg_gnLoop (hB : A₁.over (.compLoop (.GeneratorExp elt [⟨tg, iter, ifs, 0⟩] scope pos) 0 (.ref it) .none B.env) [] = B.A) (hc : B.calm = true) (hco : B.env.scope.isCoroutine = false) (hxe : B.xe = fun _ _ => False) (turns : Turn B.prog B.w B.K tg J fp it tn)
    (fpX : ∀ {pins : List (Addr × Obj)} {τ : L2.St} {G : Hp} {z : Shared}, Inv B pins τ G z → (∀ p ∈ pins, p.1 ∉ fp) → (∀ b ∈ fp, G b = none) → ∀ b ∈ fp, FpOk B pins G b) (hgp : ∀ p ∈ gp, p.1 ∉ fp)
    (dg : PG B tg g) (dt : PTs B ifs tt) (de : PE B elt te) (turn : TnW J g tt te vs σw C F W) :
    ∀ (m n i : Nat) (s₀ s : Shared) (G : Hp), m < n → Inv B gp σw G s → tn i s.heap → (∀ b ∈ fp, G b = none) → W i m G →
      Seg (model B.prog B.w) A₁ (fun n s₀ r s₁ => r = .ok .next ∧ GnR B gp fp σw F n s₀ s₁) (GnY B gp fp tn σw C) n s₀ (.compLoop (.GeneratorExp elt [⟨tg, iter, ifs, 0⟩] scope pos) 0 (.ref it) .none B.env)
        ((model B.prog B.w).den (.compLoop (.GeneratorExp elt [⟨tg, iter, ifs, 0⟩] scope pos) 0 (.ref it) .none B.env)) [] s := by
  intro m
  induction m using Nat.strongRecOn with
  | ind m ih =>
    intro n i s₀ s G hn I st no w
    show Seg _ A₁ _ _ _ s₀ _ ((compTurn (.GeneratorExp elt [⟨tg, iter, ifs, 0⟩] scope pos) 0 (.ref it) .none B.env).onRaise (leaving B.env)) [] s
    rw [compTurn_gen, Sem.onRaise_eq_wrap]
    refine seg_bind_wrap (wpAny_standAt ?_)
    rcases turn i m G w with ⟨stop, fin⟩ | ⟨go, Nx, nx, step⟩
    · refine seg_bind_wrap ?_
      rw [hB]
      refine wpAny_mono (turns.done B rfl rfl rfl hc i gp s _ G _ I (fpX I hgp no) st stop) (fun r s1 h => ?_) fun _ _ e => e
      obtain ⟨rfl, I1⟩ := h
      exact seg_end (.ok .next) ⟨rfl, G, I1, no, fin⟩
    · refine seg_bind_wrap ?_
      rw [hB]
      refine wpAny_mono (turns.item B rfl rfl rfl hc i gp s _ G _ I (fpX I hgp no) st go) (fun r s1 h => ?_) fun _ _ e => e
      obtain ⟨u, rfl, h6⟩ := h
      refine seg_bind_wrap ?_
      rw [hB]
      refine wpAny_mono h6 (fun _ s7 h => ?_) fun _ _ e => e
      obtain ⟨x, G7, I7, r7, y7, st7, no7⟩ := h
      have J7 := I7.pinned (fpX I7 hgp no7) (turns.obj _ _ st7)
      refine seg_bind_wrap ?_
      rw [hB]
      refine wpAny_mono (dg.run _ s7 _ G7 x u _ J7 r7 (step x G7 y7)) (fun _ s8 h => ?_) fun _ _ e => by rw [hxe] at e; exact e.elim
      obtain ⟨σ8, G8, I8, same8, q8⟩ := h
      refine seg_bind_wrap ?_
      rw [hB]
      refine wpAny_mono (dt.run _ s8 σ8 G8 _ I8 q8) (fun b s9 h => ?_) fun _ _ e => by rw [hxe] at e; exact e.elim
      obtain ⟨G9, I9, q9⟩ := h
      have pinnedAt : ∀ {z : Shared} {G' : Hp} {τ : L2.St}, Inv B (gp ++ pinsAt fp s7.heap) τ G' z → ∀ b ∈ fp, ∀ o, s7.heap.get? b = some o → z.heap.get? b = some o ∧ G' b = none := fun {z G' τ} Iz b hb o e => by
        have q := Iz.pin (b, o) (List.mem_append_right _ (List.mem_append_right _ (mem_pinsAt hb e)))
        exact ⟨q.1, q.2.1⟩
      have len8 : (σw).length = σ8.length := by rw [← same8, wipe_length]
      have back : ∀ {z : Shared} {G' : Hp}, Inv B (gp ++ pinsAt fp s7.heap) σ8 G' z → Inv B gp σw G' z ∧ tn (i + 1) z.heap ∧ ∀ b ∈ fp, G' b = none := fun {z G'} Iz =>
        ⟨(Iz.unpinned (pins := gp)).weak len8 (fun j v e => (wipe_some (by rw [same8]; exact e)).1), turns.keep _ _ _ st7 fun b hb o e => (pinnedAt Iz b hb o e).1, fun b hb => by
          obtain ⟨o, e, _⟩ := turns.obj _ _ st7 b hb
          exact (pinnedAt Iz b hb o e).2⟩
      cases b with
      | false =>
        simp only [Bool.false_eq_true, if_false] at q9 ⊢
        obtain ⟨m', less, w'⟩ := nx G9 q9
        obtain ⟨b1, b2, b3⟩ := back I9
        exact seg_again rfl (ih m' less n (i + 1) s₀ s9 G9 (Nat.lt_trans less hn) b1 b2 b3 w')
      | true =>
        simp only [if_true] at q9 ⊢
        have hy : ∀ v, yieldOut B.env v = yieldValue v := fun v => by simp only [yieldOut, hco, Bool.false_eq_true, if_false]
        simp only [hy]
        rw [Sem.bind_eq_wrap', Sem.bind_eq_wrap', Sem.wrap_wrap, Sem.wrap_wrap]
        refine seg_wrap ?_
        rw [hB]
        refine wpAny_mono (de.run _ s9 σ8 G9 _ I9 q9) (fun v s10 h => ?_) fun _ _ e => by rw [hxe] at e; exact e.elim
        obtain ⟨y, G10, I10, r10, c10⟩ := h
        obtain ⟨b1, b2, b3⟩ := back I10
        obtain ⟨n, rfl⟩ : ∃ k, n = k + 1 := ⟨n - 1, by omega⟩
        refine seg_at (seg_yield rfl rfl rfl ⟨y, G10, Nx, i + 1, r10, b1, b2, b3, c10, fun s' G' I' st' no' nx' => ?_⟩)
        obtain ⟨m', less, w'⟩ := nx G' nx'
        exact seg_again rfl (ih m' less n (i + 1) s' s' G' (by omega) I' st' no' w')
theorem seg_gnStart (hB : A₁.over (.compLoop (.GeneratorExp elt [⟨tg, iter, ifs, 0⟩] scope pos) 0 (.ref it) .none B.env) [] = B.A) (hc : B.calm = true) (hco : B.env.scope.isCoroutine = false) (hxe : B.xe = fun _ _ => False) (turns : Turn B.prog B.w B.K tg J fp it tn)
    (fpX : ∀ {pins : List (Addr × Obj)} {τ : L2.St} {G : Hp} {z : Shared}, Inv B pins τ G z → (∀ p ∈ pins, p.1 ∉ fp) → (∀ b ∈ fp, G b = none) → ∀ b ∈ fp, FpOk B pins G b) (hgp : ∀ p ∈ gp, p.1 ∉ fp)
    (dg : PG B tg g) (dt : PTs B ifs tt) (de : PE B elt te) (turn : TnW J g tt te vs σw C F W) (m n : Nat) (s₀ s : Shared) (G : Hp) (hn : m < n) (I : Inv B gp σw G s) (st : tn 0 s.heap) (no : ∀ b ∈ fp, G b = none) (w : W 0 m G) :
      Seg (model B.prog B.w) A₁ (fun n s₀ r s₁ => r = .ok .next ∧ GnR B gp fp σw F n s₀ s₁) (GnY B gp fp tn σw C) n s₀ (.compStart (.GeneratorExp elt [⟨tg, iter, ifs, 0⟩] scope pos) 0 (.ref it) .none B.env)
        ((model B.prog B.w).den (.compStart (.GeneratorExp elt [⟨tg, iter, ifs, 0⟩] scope pos) 0 (.ref it) .none B.env)) [] s := by
  have loop := seg_gnLoop hB hc hco hxe turns fpX hgp dg dt de turn m n 0 s₀ s G hn I st no w
  show Seg _ A₁ _ _ _ s₀ _ ((compStart (.GeneratorExp elt [⟨tg, iter, ifs, 0⟩] scope pos) 0 (.ref it) .none B.env).onRaise (leaving B.env)) [] s
  unfold compStart
  rw [Sem.onRaise_eq_wrap]
  show Seg _ A₁ _ _ _ s₀ _ ((ask >>= _).wrap _ _ _ _) [] s
  refine seg_bind_wrap (wpAny_askSetting ?_)
  split
  · exact seg_again rfl loop
  · first
      | exact seg_bind_wrap (wpAny_rule (seg_bind_wrap (wpAny_standAt (seg_bind_wrap (turns.self _ 0 s _ _ st (seg_again rfl loop))))))
      | (refine seg_bind_wrap (wpAny_rule ?_); show Seg _ A₁ _ _ _ s₀ _ ((standAt iter.pos >>= _).wrap _ _ _ _) [] s; exact seg_bind_wrap (wpAny_standAt (seg_bind_wrap (turns.self _ 0 s _ _ st (seg_again rfl loop)))))
end
end Pr

/-! code objects of generator expressions: found again, made -/
namespace Pr
open PySem PySem.Spec PyProof.Rows L2 LamX NdefX
/-- a table whose code objects are known, and their tables -/
def TabK (H : Hp) (P : Addr) : Prop := ∃ ps : Array Value, H P = some (.tbl ps) ∧ TriplesOk ps.toList ∧ ∀ (pos : Pos) (cv : Value), codeAmong pos ps.toList = some cv → ∃ c P', cv = .ref c ∧ H c = some (GCode c P') ∧ H P' = some (GTabO P')
def GrowK (P : Addr) (H H' : Hp) (code : Value) : Prop := TabK H' P ∧ (∃ c P', code = .ref c ∧ H' c = some (GCode c P') ∧ H' P' = some (GTabO P')) ∧ ∀ b o, H b = some o → b ≠ P → H' b = some o
theorem gcode_ne {c P : Addr} (ps : Array Value) : GCode c P ≠ .tbl ps := fun z => by unfold GCode at z; cases z
theorem gtab_ne {P : Addr} (ps : Array Value) : GTabO P ≠ .tbl ps := fun z => by unfold GTabO at z; cases z
theorem gcode_obj {P : Program} {w : World} {H : Hp} {h : Heap} {c Q : Addr} (x : PySem.W.CodeHd h c Q) : ObjOk P w H h c (GCode c Q) := by
  refine ⟨x, ?_, fun h1 h2 y k => ?_⟩
  · obtain ⟨o, _, _, _, _, _, _, _, _, e, _⟩ := x
    exact ⟨o, e⟩
  · obtain ⟨o, vs, file, tf, flags, tg, inF, text, tt, e, r⟩ := y
    exact ⟨o, vs, file, tf, flags, tg, inF, text, tt, k _ e, r⟩
theorem gtab_obj {P : Program} {w : World} {H : Hp} {h : Heap} {Q : Addr} {ps : Array Value} (x : h.get? Q = some { cls := .none, data := .fields ps }) (t : TriplesOk ps.toList) : ObjOk P w H h Q (GTabO Q) :=
  ⟨⟨ps, x, t⟩, ⟨_, x⟩, fun h1 h2 ⟨ps, y, t⟩ k => ⟨ps, k _ y, t⟩⟩
section
variable {X : Cx} {pins : List (Addr × Obj)} {σ : L2.St} {H : Hp} {s : Shared}
/-- the table has grown, new things are known -/
theorem inv_grow {P : Addr} {ps more : Array Value} {h' : Heap} {t' : Nat} {H' : Hp} (I : Inv X pins σ H s) (hP : H P = some (.tbl ps)) (k : ∀ b o, b ≠ P → s.heap.get? b = some o → h'.get? b = some o)
    (hm : h'.get? P = some { cls := .none, data := .fields (ps ++ more) }) (h1 : H' P = some (.tbl (ps ++ more))) (h2 : ∀ b o, H b = some o → b ≠ P → H' b = some o) (h3 : ∀ b o, H' b = some o → H b = none → s.heap.objs.size ≤ b ∧ ObjOk X.prog X.w H' h' b o) :
    Inv X pins σ H' { s with heap := h', toks := t' } := by
  have nP : ∀ b u, H b = some u → (∀ q, u ≠ .tbl q) → b ≠ P := fun b u e q z => by
    rw [z, hP] at e
    exact q ps (Option.some.inj e).symm
  have nN : ∀ b, H b = none → b ≠ P := fun b e z => by
    rw [z, hP] at e
    cases e
  refine I.step (g' := s.gens) (d' := s.drawn) (ch := []) (fun b hb => absurd hb (by simp)) (fun b o _ _ _ e n => k b o (nN b n) e) (fun b o _ _ _ e n => ⟨o.slots, k b o (nN b n) e⟩)
    (fun b o _ e n => ?_) (fun b o _ e => ?_) (fun b xs e => h2 b _ e (nP b _ e (fun q z => by cases z))) (fun b o u e => h2 b _ e (nP b _ e (fun q z => by cases z))) (fun b qs e => ?_) (fun m hn => ?_) (fun b u e => ?_) I.bare
  · cases q : H' b with
    | none => rfl
    | some u => exact absurd (Nat.lt_of_lt_of_le (Heap.lt_size e) (h3 b u q n).1) (Nat.lt_irrefl _)
  · by_cases hb : b = P
    · rw [hb]
      exact ⟨_, hm⟩
    · exact ⟨o, k b o hb e⟩
  · by_cases hb : b = P
    · rw [hb, hP] at e
      cases e
      rw [hb, h1]
      exact ⟨more, rfl⟩
    · rw [h2 b _ e hb]
      exact ⟨#[], by simp⟩
  · obtain ⟨ob, es, ep, ho, r⟩ := hn
    exact ⟨ob, es, ep, k _ ob (nN _ I.free) ho, r⟩
  · by_cases hb2 : b = P
    · rw [hb2, h1] at e
      cases e
      rw [hb2]
      exact hm
    · cases q : H b with
      | none => exact (h3 b u e q).2
      | some u' =>
        have := h2 b u' q hb2
        rw [e] at this
        cases this
        refine (I.hok b u q).stay (fun d v hd q => k d v ?_ q) (fun d q => h2 d _ q (nP d _ q (fun q z => by cases z))) fun d xs q => h2 d _ q (nP d _ q (fun q z => by cases z))
        rcases hd with z | z
        · rw [z]
          exact hb2
        · exact nP d _ z (fun q z => by cases z)
/-- how a generator expression's code object comes -/
structure CodeStep (X : Cx) (gpos : Pos) (scope : Scope) (Pre : Hp → Prop) (Post : Hp → Hp → Value → Prop) : Prop where
  run : ∀ (pins : List (Addr × Obj)) (σ : L2.St) (H : Hp) (s : Shared) (E : Value → Shared → Prop), Inv X pins σ H s → Pre H → wpAny (model X.prog X.w) X.A (genexprCode X.env gpos (X.env.qual ++ "<genexpr>") scope)
    (fun code s' => ∃ H' h' tk, s' = { s with heap := h', toks := tk } ∧ Inv X pins σ H' s' ∧ s.heap.objs.size ≤ h'.objs.size ∧ (∀ b o, H b = none → s.heap.get? b = some o → h'.get? b = some o) ∧ (∀ b, b < s.heap.objs.size → H b = none → H' b = none) ∧ Post H H' code) E s
theorem codeStep_top {P c : Addr} {gpos : Pos} {scope : Scope} (hc : X.env.code = .ref c) (hcd : PySem.W.CodeHd X.base c P) : CodeStep X gpos scope (fun H => TabK H P) (GrowK P) := by
  refine ⟨fun pins σ H s E I ⟨ps, hP, ht, hk⟩ => ?_⟩
  have cd : PySem.W.CodeHd s.heap c P := hcd.keeps fun b u e => I.bk b u e
  have hP2 : s.heap.get? P = some { cls := .none, data := .fields ps } := I.hok P _ hP
  rcases hf : codeAmong gpos ps.toList with _ | cv
  · refine wpAny_genexprCodeX hc (cd.code hP2 ht) (cd.tab hP2) hf ?_
    intro c' h' tk hx hge hlt hco _ htab ⟨P', hgeP, hco', htab'⟩
    have tri : TriplesOk (ps ++ #[rawInt gpos.line, rawInt gpos.col, Value.ref c']).toList := by
      obtain ⟨_, _, _, _, _, _, _, _, _, _, _, _, _, _, _, _, _, _, _, tri, _⟩ := hco
      exact tri
    have Plt : P < s.heap.objs.size := Heap.lt_size hP2
    have ncP : c' ≠ P := Nat.ne_of_gt (Nat.lt_of_lt_of_le Plt hge)
    have nP'P : P' ≠ P := Nat.ne_of_gt (Nat.lt_of_lt_of_le Plt hgeP)
    have cd' := PySem.W.CodeHd.of hco' htab'
    have ncc : c' ≠ P' := by
      obtain ⟨_, _, _, _, _, _, _, _, _, _, _, _, _, _, _, _, _, _, n⟩ := cd'
      exact n
    have fc : H c' = none := I.hok.fresh hge
    have fP : H P' = none := I.hok.fresh hgeP
    have e1 : ∀ b, b ≠ P → b ≠ c' → b ≠ P' → upd (upd (upd H P (.tbl (ps ++ #[rawInt gpos.line, rawInt gpos.col, Value.ref c']))) c' (GCode c' P')) P' (GTabO P') b = H b := fun b h1 h2 h3 => by rw [upd_ne h3, upd_ne h2, upd_ne h1]
    have e2 : upd (upd (upd H P (.tbl (ps ++ #[rawInt gpos.line, rawInt gpos.col, Value.ref c']))) c' (GCode c' P')) P' (GTabO P') P = some (.tbl (ps ++ #[rawInt gpos.line, rawInt gpos.col, Value.ref c'])) := by rw [upd_ne (Ne.symm nP'P), upd_ne (Ne.symm ncP), upd_same]
    have e3 : upd (upd (upd H P (.tbl (ps ++ #[rawInt gpos.line, rawInt gpos.col, Value.ref c']))) c' (GCode c' P')) P' (GTabO P') c' = some (GCode c' P') := by rw [upd_ne ncc, upd_same]
    have e4 : ∀ b o, H b = some o → b ≠ P → upd (upd (upd H P (.tbl (ps ++ #[rawInt gpos.line, rawInt gpos.col, Value.ref c']))) c' (GCode c' P')) P' (GTabO P') b = some o := fun b o e n => by
      rw [e1 b n (fun z => by rw [z, fc] at e; cases e) (fun z => by rw [z, fP] at e; cases e)]
      exact e
    refine ⟨upd (upd (upd H P (.tbl (ps ++ #[rawInt gpos.line, rawInt gpos.col, Value.ref c']))) c' (GCode c' P')) P' (GTabO P'), h', tk, rfl, inv_grow I hP (fun b o n e => hx b o n e) htab.2 e2 e4 (fun b o e n => ?_), Nat.le_trans hge (Nat.le_of_lt hlt), fun b o n e => hx b o (fun z => by rw [z, hP] at n; cases n) e, fun b hb n => ?_, ⟨⟨_, e2, tri, fun pos cv hcv => ?_⟩, ⟨c', P', rfl, e3, upd_same⟩, e4⟩⟩
    · by_cases b1 : b = P'
      · subst b1
        rw [upd_same] at e
        cases e
        exact ⟨hgeP, gtab_obj htab'.2 (by simp [TriplesOk])⟩
      · rw [upd_ne b1] at e
        by_cases b2 : b = c'
        · subst b2
          rw [upd_same] at e
          cases e
          exact ⟨hge, gcode_obj cd'⟩
        · rw [upd_ne b2] at e
          by_cases b3 : b = P
          · rw [b3, hP] at n; cases n
          · rw [upd_ne b3, n] at e; cases e
    · rw [e1 b (fun z => by rw [z, hP] at n; cases n) (fun z => by rw [z] at hb; exact absurd (Nat.lt_of_lt_of_le hb hge) (Nat.lt_irrefl _)) (fun z => by rw [z] at hb; exact absurd (Nat.lt_of_lt_of_le hb hgeP) (Nat.lt_irrefl _))]
      exact n
    · have hl : (ps ++ #[rawInt gpos.line, rawInt gpos.col, Value.ref c']).toList = ps.toList ++ [rawInt gpos.line, rawInt gpos.col, .ref c'] := by simp
      rw [hl] at hcv
      rcases among_app _ ht hcv with z | z
      · obtain ⟨c0, P0, rfl, q1, q2⟩ := hk pos cv z
        exact ⟨c0, P0, rfl, e4 _ _ q1 (fun z => by rw [z, hP] at q1; exact absurd (Option.some.inj q1).symm (gcode_ne ps)), e4 _ _ q2 (fun z => by rw [z, hP] at q2; exact absurd (Option.some.inj q2).symm (gtab_ne ps))⟩
      · exact ⟨c', P', z, e3, upd_same⟩
  · refine wpAny_genexprCode_hit hc (cd.code hP2 ht) hf ?_
    obtain ⟨c0, P0, rfl, q1, q2⟩ := hk _ _ hf
    exact ⟨H, s.heap, s.toks, rfl, I, Nat.le_refl _, fun _ _ _ e => e, fun _ _ n => n, ⟨ps, hP, ht, hk⟩, ⟨c0, P0, rfl, q1, q2⟩, fun _ _ e _ => e⟩
end
end Pr

/-! any, all over such generator expressions -/
namespace Pr
open PySem PySem.Spec PyProof.Rows L2 LamX NdefX
/-! a generator expression's frame, with cells of its own -/
section
variable {M : Model} {A : Around} {E : Value → Shared → Prop} {s : Shared}
theorem gexp_env {scope : Scope} {globals : Addr} {closure : List (Str × Addr)} {it : Value} {qual : Str} {func : Option Addr} {code : Value} {builtins : Addr} {Q : Env → Shared → Prop}
    (hk : scope.kind = .function) (h0 : scope.names.lookup (".0" : Str) = some NameKind.local)
    (hQ : ∀ h', h'.Ns s.heap.objs.size (fun y => if y = ".0" then some it else none) → Heap.SameBut s.heap.objs.size (pushCells (s.heap.push { cls := .type "frame", data := .dict #[] }) scope.names) h' →
      Q (newEnv scope s.heap.objs.size globals (cellsFrom (s.heap.objs.size + 1) scope.names closure) qual func code none builtins) { s with heap := h', toks := s.toks + 1 }) :
    wpAny M A (newFunctionEnv scope globals closure [(".0", it)] qual func code none builtins) Q E s := by
  simp only [newFunctionEnv, Option.isSome_none, Bool.false_eq_true, if_false]
  refine wpAny_bind (wpAny_alloc ?_)
  refine wpAny_bind (wpAny_layCells _ (fun n k c => by cases hkc : k == NameKind.cell <;> simp [hkc]) scope.names closure _ _ ?_)
  rw [show ({ s with heap := s.heap.push { cls := .type "frame", data := .dict #[] } } : Shared).heap.objs.size = s.heap.objs.size + 1 from Heap.size_push ..]
  rw [List.forIn_cons]
  have ns0 : (pushCells (s.heap.push { cls := .type "frame", data := .dict #[] }) scope.names).Ns s.heap.objs.size (fun _ => none) := (Heap.Ns.new s.heap (.type "frame")).keeps (pushCells_keeps _ _)
  refine wpAny_bind (wpAny_bind (wpAny_bind (wpAny_storeName_local h0 ns0 (fun h' hn' hs' => ?_) (by show (scope.kind == .class || _) = _; rw [hk]; rfl))))
  refine wpAny_pure ?_
  simp only [List.forIn_nil]
  exact wpAny_pure (wpAny_pure (hQ h' hn' hs'))
theorem gexp_make {env : Env} {elt target iter : Expr} {ifs : List Expr} {scope : Scope} {cl : List (Str × Addr)} {pos : Pos} {Q : Value → Shared → Prop}
    (hco : scope.isCoroutine = false) (hclos : closureFor scope env = pure cl) (h0 : scope.names.lookup (".0" : Str) = some NameKind.local) (hkind : scope.kind = .function)
    (hroom : A.depth < recursionLimit)
    (h : wpAny M A (eval iter env) (fun xv s₁ => wpAny M A (pyIter xv) (fun it s₂ => s₂.heap.NoLimit ∧
      wpAny M A (genexprCode env pos (env.qual ++ "<genexpr>") scope) (fun code s₃ => wpAny M A (builtinsFor env.globals env.builtins) (fun bi s₄ =>
        ∀ h', h'.Ns s₄.heap.objs.size (fun y => if y = ".0" then some it else none) → Heap.SameBut s₄.heap.objs.size (pushCells (s₄.heap.push { cls := .type "frame", data := .dict #[] }) scope.names) h' →
          Q (.ref h'.objs.size) { s₄ with
            gens := s₄.gens.push (.fresh (.compStart (.GeneratorExp elt [⟨target, iter, ifs, 0⟩] scope pos) 0 it .none (genEnv scope (cellsFrom (s₄.heap.objs.size + 1) scope.names cl) s₄.heap.objs.size code bi env))),
            toks := s₄.toks + 1 + 1 + 1,
            heap := h'.push { cls := .type "generator", data := .fields #[.int s₄.gens.size 0, .str "<genexpr>" (s₄.toks + 1), .str (env.qual ++ "<genexpr>") (s₄.toks + 1 + 1)] } }) E s₃) E s₂) E s₁) E s)
    (hs : ∀ x, genFold iter env x = pure x) :
    wpAny M A (eval (.GeneratorExp elt [⟨target, iter, ifs, 0⟩] scope pos) env) Q E s := by
  rw [eval_GeneratorExp1 _ _ _ _ _ _ _ hco, hclos]
  refine wpAny_bind (wpAny_mono h (fun xv s₁ h₁ => ?_) fun _ _ e => e)
  refine wpAny_bind (wpAny_standAt ?_)
  refine wpAny_bind (wpAny_of_eq (hs xv) ?_)
  refine wpAny_bind (wpAny_holding (wpAny_mono h₁ (fun it s₂ h₂ => ?_) fun _ _ e => e))
  refine wpAny_bind (wpAny_enterFrame h₂.1 hroom ?_)
  refine wpAny_bind (wpAny_pure ?_)
  refine wpAny_bind (wpAny_mono h₂.2 (fun code s₃ h₃ => ?_) fun _ _ e => e)
  refine wpAny_bind (wpAny_mono h₃ (fun bi s₄ h₄ => ?_) fun _ _ e => e)
  refine wpAny_bind (gexp_env hkind h0 (fun h' hn' hs' => ?_))
  simp only [newGenerator, newFields]
  refine wpAny_bind (wpAny_newGen (wpAny_bind (wpAny_mkText (wpAny_bind (wpAny_mkText (wpAny_newObj_type ?_ (by size_fits)))))))
  exact h₄ h' hn' hs'
end
theorem Inv.gens {X : Cx} {pins : List (Addr × Obj)} {σ : L2.St} {H : Hp} {s : Shared} (I : Inv X pins σ H s) {g' : Array GenState} (hb : AllBare g') {t' : Nat} {d' : Drawn} : Inv X pins σ H { s with gens := g', toks := t', drawn := d' } :=
  ⟨I.ok, I.os, hb, I.base, I.loc, I.cell, I.free, I.freeC, I.pin, I.hok, I.len⟩
theorem Inv.setG {X : Cx} {pins : List (Addr × Obj)} {σ : L2.St} {H : Hp} {s : Shared} (I : Inv X pins σ H s) {g : Nat} {x : GenState} (hx : x.bare = true) : Inv X pins σ H (s.setGen g x) := Inv.gens I (allBare_setGen I.bare hx)
/-- the around of a generator expression's body -/
abbrev gnA (A₁ : Around) (elt tg iter : Expr) (ifs : List Expr) (scope : Scope) (pos : Pos) (it : Addr) (cenv : Env) : Around := A₁.over (.compLoop (.GeneratorExp elt [⟨tg, iter, ifs, 0⟩] scope pos) 0 (.ref it) .none cenv) []
section
variable {A₁ : Around} {elt tg iter : Expr} {ifs : List Expr} {scope : Scope} {pos : Pos} {it : Addr} {cenv : Env} {l : List Env} {k : Nat}
theorem gnA_frames (h : A₁.frames = some l) : (gnA A₁ elt tg iter ifs scope pos it cenv).frames = some (cenv :: l) := by
  show pushEnvs [cenv] (pushEnvs [] A₁.frames) = _
  rw [h]
  rfl
theorem gnA_room (h : Room (k + 1) A₁) : Room k (gnA A₁ elt tg iter ifs scope pos it cenv) := by
  refine ⟨h.hd, ?_, ?_⟩
  · have := h.dp
    show A₁.depth + 0 + 1 + 3 * k + 5 < _
    omega
  · have := h.un
    show A₁.units + 0 + _ + 16 * k + 200 < _
    have h2 : (Code.compLoop (.GeneratorExp elt [⟨tg, iter, ifs, 0⟩] scope pos) 0 (.ref it) .none cenv).cUnits ≤ 8 := Nat.le_of_ble_eq_true rfl
    omega
end
/-- a generator expression has been made -/
structure GnMade (X : Cx) (pins : List (Addr × Obj)) (σ : L2.St) (elt tg iter : Expr) (ifs : List Expr) (scope : Scope) (pos : Pos) (Q : It → Hp → Value → Prop) (v : Value) (s : Shared) : Prop where
  ex : ∃ (a g : Nat) (it : Addr) (fp : List Addr) (tn : Nat → Heap → Prop) (J : It) (H2 : Hp) (s4 : Shared) (code : Value) (go : Obj), v = .ref a ∧ Inv X pins σ H2 s4 ∧ Turn X.prog X.w X.K tg J fp it tn ∧ (∀ b ∈ fp, FpOk X pins H2 b ∧ b < s4.heap.objs.size) ∧ tn 0 s.heap ∧
    s.heap.IsGen a g ∧ s.heap.get? a = some go ∧ (∀ v, go.data ≠ .cell v) ∧ s4.heap.objs.size < a ∧ s.gens[g]? = some (.fresh (.compStart (.GeneratorExp elt [⟨tg, iter, ifs, 0⟩] scope pos) 0 (.ref it) .none (genEnv scope (cellsFrom (s4.heap.objs.size + 1) scope.names (cloFrom X.env.cells scope.names [])) s4.heap.objs.size code builtinsNs X.env))) ∧
    AllBare s.gens ∧ s.os = s4.os ∧ (∃ m', s.heap.Ns s4.heap.objs.size m') ∧ (∀ b o, s4.heap.get? b = some o → s.heap.get? b = some o) ∧ (∀ b o, b ≠ s4.heap.objs.size → (pushCells (s4.heap.push { cls := .type "frame", data := .dict #[] }) scope.names).get? b = some o → s.heap.get? b = some o) ∧ Q J H2 code
theorem gn_make {X : Cx} {pins : List (Addr × Obj)} {σ : L2.St} {H : Hp} {s : Shared} {elt tg iter : Expr} {ifs : List Expr} {scope : Scope} {pos : Pos} {own : List (Str × Nat)} {k : Nat} {wi : TI} {K : It → Hp → Value → Prop} {P0 : Addr} {Pre : Hp → Prop} {Post : Hp → Hp → Value → Prop}
    (hr : Room k X.A) (hbm : X.base.BuiltinsAt X.mg P0) (cs : CodeStep X pos scope Pre Post) (ok : GnOk X.N X.env.scope scope own) (hi : PI X tg iter wi) (hs : ∀ v, genFold iter X.env v = pure v) (I : Inv X pins σ H s)
    (h : wi σ H fun J H1 => Pre H1 ∧ ∀ H2 code, Post H1 H2 code → K J H2 code) :
    wpAny (model X.prog X.w) X.A (eval (.GeneratorExp elt [⟨tg, iter, ifs, 0⟩] scope pos) X.env) (GnMade X pins σ elt tg iter ifs scope pos K) X.xe s := by
  have hfree : ∀ y ∈ scope.names, y.2 = .free → ∃ c, X.env.cells.lookup y.1 = some c := fun y hy e => by
    rcases ok.free y hy e with k | k
    · exact I.ok.has _ (.inl k)
    · exact I.ok.has _ (.inr k)
  refine gexp_make ok.co (closure_ok hfree) ok.dot ok.kind (by have := hr.dp; omega) (thn (hi.run pins s σ H _ I h) fun xv s1 h1 => thn h1 fun itv s2 h2 => ?_) hs
  obtain ⟨it, fp, tn, J, H1, rfl, I2, turns, st2, fp2, pre, q⟩ := h2
  refine ⟨I2.nolimit, ?_⟩
  refine wpAny_mono (cs.run pins σ H1 s2 X.xe I2 pre) (fun code s3 h3 => ?_) fun _ _ e => e
  obtain ⟨H2, h3, tk, rfl, I3, hsz, kU, nU, post⟩ := h3
  obtain ⟨bm, bo, e1, e2, e3, e4, e5, e6, e7, e8⟩ := hbm
  refine wpAny_builtinsFor (m := X.mg) (by rw [I3.ok.glob]; exact I3.mod.glob.keeps I3.bk) e1 e2 (I3.bk _ _ e5) e6 e7 e8 ?_
  intro h' hns hsb
  have szh : h3.objs.size + 1 ≤ h'.objs.size := by
    have := pushCells_size scope.names (h3.push { cls := .type "frame", data := .dict #[] })
    rw [Heap.size_push] at this
    rw [hsb.1]
    exact this
  have keep' : ∀ b o, h3.get? b = some o → h'.get? b = some o := fun b o e => hsb.extBut b o (Nat.ne_of_lt (Heap.lt_size e)) (pushCells_keeps _ _ _ _ (Heap.get?_push_of_some _ e))
  have kfp : ∀ b ∈ fp, ∀ o, s2.heap.get? b = some o → h3.get? b = some o := fun b hb o e => kU b o (fp2 b hb).1 e
  refine ⟨h'.objs.size, _, it, fp, tn, J, _, _, code, _, rfl, I3, turns, fun b hb => ?_, ?_, ⟨_, _, _, Heap.get?_push_size _ rfl, rfl, rfl, rfl⟩, Heap.get?_push_size _ rfl, (fun v z => by cases z), ?_, Array.getElem?_push_size .., AllBare.push (g := GenState.fresh _) I3.bare rfl, rfl, ⟨_, hns.push _⟩, fun b o e => Heap.get?_push_of_some _ (keep' b o e), fun b o n e => Heap.get?_push_of_some _ (hsb.extBut b o n e), q _ _ post⟩
  · obtain ⟨o, e, _⟩ := turns.obj _ _ st2 b hb
    obtain ⟨f0, f⟩ := fp2 b hb
    exact ⟨⟨nU b (Heap.lt_size e) f0, f⟩, Heap.lt_size (kfp b hb o e)⟩
  · exact turns.keep _ _ _ st2 fun b hb o e => Heap.get?_push_of_some _ (keep' b o (kfp b hb o e))
  · show h3.objs.size < h'.objs.size
    omega
theorem bool_nf {b : Bool} (h : ¬ b = false) : b = true := by
  cases b
  · exact absurd rfl h
  · rfl
theorem wpAny_truthy_bool {M : Model} {A : Around} {b : Bool} {Q : Bool → Shared → Prop} {E : Value → Shared → Prop} {s : Shared} (h : Q b s) : wpAny M A (truthy (.bool b)) Q E s := wpAny_pure h
theorem gn_any_loop {B : Cx} {gp : List (Addr × Obj)} {fp : List Addr} {tn : Nat → Heap → Prop} {σw : L2.St} {QE : VK} {A : Around} {a g : Nat} {Rr : Result → Shared → Prop} (hh : A.handled = none) (hd : A.depth < recursionLimit)
    (gpa : ∃ (go : Obj) (nm qn : Value), (a, go) ∈ gp ∧ go.cls = .type "generator" ∧ go.data = .fields #[.int g 0, nm, qn] ∧ go.slots = #[]) (hR : ∀ b s' G', Inv B gp σw G' s' → QE (.bl b) G' → Rr (.ok (.ret (.bool b))) s') :
    ∀ (n : Nat) (s : Shared) (G : Hp), Inv B gp σw G s → (∃ gs, s.gens[g]? = some gs ∧ gs.Goes (model B.prog B.w) A.in1.in1 (fun n s₀ r s₁ => r = .ok .next ∧ GnR B gp fp σw (QE (.bl false)) n s₀ s₁) (GnY B gp fp tn σw fun y H4 Nx => ∃ b, y = .bl b ∧ if b = true then QE (.bl true) H4 else Nx H4) n (.send .none) (s.setGen g .running)) →
      codeAny (model B.prog B.w) A (.builtin "any.loop" ⟨[.ref a], []⟩) Rr s := by
  intro n
  obtain ⟨go, nm, qn, gm, g1, g2, g3⟩ := gpa
  induction n with
  | zero =>
    intro s G I ⟨gs, hgs, hgo⟩
    refine codeAny_builtin F.entry_any_loop ?_
    rw [Around.under_plainId F.plain_any_loop _]
    show wpAny _ A.in1 (pyNext (.ref a) >>= _) _ _ s
    have hg : s.heap.IsGen a g := ⟨go, nm, qn, (I.pin (a, go) (List.mem_append_right _ gm)).1, g1, g2, g3⟩
    refine wpAny_bind (wpAny_pyNext_genexpQ (A := A.in1) (P := GnR B gp fp σw (QE (.bl false))) hh I.nolimit hd hg hgs hgo (fun v s₁ gs' hb hv => ?_) (fun s₁ hp h' hk => ?_))
    · obtain ⟨y, G1, Nx, i, ry, I1, st, no, ⟨b, rfl, c⟩, kap⟩ := hv
      obtain rfl : v = Value.bool b := ry
      refine wpAny_bind (wpAny_holding (wpAny_truthy_bool ?_))
      refine wpAny_bind (wpAny_letGo ?_)
      by_cases hs : b = true
      · subst hs
        rw [if_pos rfl] at c
        simp only [if_true, Bool.false_eq_true, if_false]
        exact wpAny_bind (wpAny_rule (wpAny_pure (hR _ _ G1 (Inv.setG I1 hb) c)))
      · rw [if_neg hs] at c
        exact (kap _ _ I1 st no c).elim
    · obtain ⟨G1, I1, no, fin⟩ := hp
      exact wpAny_bind (wpAny_rule (wpAny_pure (hR _ _ G1 ((Inv.setG (g := g) (x := .finished) I1 rfl).kept (t' := s₁.toks) hk) fin)))
  | succ n ih =>
    intro s G I ⟨gs, hgs, hgo⟩
    refine codeAny_builtin F.entry_any_loop ?_
    rw [Around.under_plainId F.plain_any_loop _]
    show wpAny _ A.in1 (pyNext (.ref a) >>= _) _ _ s
    have hg : s.heap.IsGen a g := ⟨go, nm, qn, (I.pin (a, go) (List.mem_append_right _ gm)).1, g1, g2, g3⟩
    have hlt : g < s.gens.size := by
      rcases Nat.lt_or_ge g s.gens.size with z | z
      · exact z
      · rw [Array.getElem?_eq_none z] at hgs; cases hgs
    refine wpAny_bind (GenW.wpAny_gsz (Nat.succ_le_of_lt hlt) (wpAny_pyNext_genexpQ (A := A.in1) (P := GnR B gp fp σw (QE (.bl false))) hh I.nolimit hd hg hgs hgo (fun v s₁ gs' hb hv => ?_) (fun s₁ hp h' hk => ?_)))
    · intro hsz
      rw [GenW.setGen_size] at hsz
      obtain ⟨y, G1, Nx, i, ry, I1, st, no, ⟨b, rfl, c⟩, kap⟩ := hv
      obtain rfl : v = Value.bool b := ry
      refine wpAny_bind (wpAny_holding (wpAny_truthy_bool ?_))
      refine wpAny_bind (wpAny_letGo ?_)
      by_cases hs : b = true
      · subst hs
        rw [if_pos rfl] at c
        simp only [if_true, Bool.false_eq_true, if_false]
        exact wpAny_bind (wpAny_rule (wpAny_pure (hR _ _ G1 (Inv.setG I1 hb) c)))
      · rw [if_neg hs] at c
        obtain rfl : b = false := Bool.eq_false_iff.mpr hs
        simp only [if_true, Bool.false_eq_true, if_false]
        refine wpAny_pure ⟨plainId_quiet F.plain_any_loop _, ih _ G1 (Inv.setG I1 hb) ⟨gs', setGen_at hsz, ?_⟩⟩
        exact kap _ G1 (Inv.setG (g := g) (x := .running) (Inv.setG I1 hb) rfl) st no c
    · intro _
      obtain ⟨G1, I1, no, fin⟩ := hp
      exact wpAny_bind (wpAny_rule (wpAny_pure (hR _ _ G1 ((Inv.setG (g := g) (x := .finished) I1 rfl).kept (t' := s₁.toks) hk) fin)))
theorem gn_all_loop {B : Cx} {gp : List (Addr × Obj)} {fp : List Addr} {tn : Nat → Heap → Prop} {σw : L2.St} {QE : VK} {A : Around} {a g : Nat} {Rr : Result → Shared → Prop} (hh : A.handled = none) (hd : A.depth < recursionLimit)
    (gpa : ∃ (go : Obj) (nm qn : Value), (a, go) ∈ gp ∧ go.cls = .type "generator" ∧ go.data = .fields #[.int g 0, nm, qn] ∧ go.slots = #[]) (hR : ∀ b s' G', Inv B gp σw G' s' → QE (.bl b) G' → Rr (.ok (.ret (.bool b))) s') :
    ∀ (n : Nat) (s : Shared) (G : Hp), Inv B gp σw G s → (∃ gs, s.gens[g]? = some gs ∧ gs.Goes (model B.prog B.w) A.in1.in1 (fun n s₀ r s₁ => r = .ok .next ∧ GnR B gp fp σw (QE (.bl true)) n s₀ s₁) (GnY B gp fp tn σw fun y H4 Nx => ∃ b, y = .bl b ∧ if b = false then QE (.bl false) H4 else Nx H4) n (.send .none) (s.setGen g .running)) →
      codeAny (model B.prog B.w) A (.builtin "all.loop" ⟨[.ref a], []⟩) Rr s := by
  intro n
  obtain ⟨go, nm, qn, gm, g1, g2, g3⟩ := gpa
  induction n with
  | zero =>
    intro s G I ⟨gs, hgs, hgo⟩
    refine codeAny_builtin F.entry_all_loop ?_
    rw [Around.under_plainId F.plain_all_loop _]
    show wpAny _ A.in1 (pyNext (.ref a) >>= _) _ _ s
    have hg : s.heap.IsGen a g := ⟨go, nm, qn, (I.pin (a, go) (List.mem_append_right _ gm)).1, g1, g2, g3⟩
    refine wpAny_bind (wpAny_pyNext_genexpQ (A := A.in1) (P := GnR B gp fp σw (QE (.bl true))) hh I.nolimit hd hg hgs hgo (fun v s₁ gs' hb hv => ?_) (fun s₁ hp h' hk => ?_))
    · obtain ⟨y, G1, Nx, i, ry, I1, st, no, ⟨b, rfl, c⟩, kap⟩ := hv
      obtain rfl : v = Value.bool b := ry
      refine wpAny_bind (wpAny_holding (wpAny_truthy_bool ?_))
      refine wpAny_bind (wpAny_letGo ?_)
      by_cases hs : b = false
      · subst hs
        rw [if_pos rfl] at c
        simp only [if_true, Bool.false_eq_true, if_false]
        exact wpAny_bind (wpAny_rule (wpAny_pure (hR _ _ G1 (Inv.setG I1 hb) c)))
      · rw [if_neg hs] at c
        exact (kap _ _ I1 st no c).elim
    · obtain ⟨G1, I1, no, fin⟩ := hp
      exact wpAny_bind (wpAny_rule (wpAny_pure (hR _ _ G1 ((Inv.setG (g := g) (x := .finished) I1 rfl).kept (t' := s₁.toks) hk) fin)))
  | succ n ih =>
    intro s G I ⟨gs, hgs, hgo⟩
    refine codeAny_builtin F.entry_all_loop ?_
    rw [Around.under_plainId F.plain_all_loop _]
    show wpAny _ A.in1 (pyNext (.ref a) >>= _) _ _ s
    have hg : s.heap.IsGen a g := ⟨go, nm, qn, (I.pin (a, go) (List.mem_append_right _ gm)).1, g1, g2, g3⟩
    have hlt : g < s.gens.size := by
      rcases Nat.lt_or_ge g s.gens.size with z | z
      · exact z
      · rw [Array.getElem?_eq_none z] at hgs; cases hgs
    refine wpAny_bind (GenW.wpAny_gsz (Nat.succ_le_of_lt hlt) (wpAny_pyNext_genexpQ (A := A.in1) (P := GnR B gp fp σw (QE (.bl true))) hh I.nolimit hd hg hgs hgo (fun v s₁ gs' hb hv => ?_) (fun s₁ hp h' hk => ?_)))
    · intro hsz
      rw [GenW.setGen_size] at hsz
      obtain ⟨y, G1, Nx, i, ry, I1, st, no, ⟨b, rfl, c⟩, kap⟩ := hv
      obtain rfl : v = Value.bool b := ry
      refine wpAny_bind (wpAny_holding (wpAny_truthy_bool ?_))
      refine wpAny_bind (wpAny_letGo ?_)
      by_cases hs : b = false
      · subst hs
        rw [if_pos rfl] at c
        simp only [if_true, Bool.false_eq_true, if_false]
        exact wpAny_bind (wpAny_rule (wpAny_pure (hR _ _ G1 (Inv.setG I1 hb) c)))
      · rw [if_neg hs] at c
        obtain rfl : b = true := bool_nf hs
        simp only [if_true, Bool.false_eq_true, if_false]
        refine wpAny_pure ⟨plainId_quiet F.plain_all_loop _, ih _ G1 (Inv.setG I1 hb) ⟨gs', setGen_at hsz, ?_⟩⟩
        exact kap _ G1 (Inv.setG (g := g) (x := .running) (Inv.setG I1 hb) rfl) st no c
    · intro _
      obtain ⟨G1, I1, no, fin⟩ := hp
      exact wpAny_bind (wpAny_rule (wpAny_pure (hR _ _ G1 ((Inv.setG (g := g) (x := .finished) I1 rfl).kept (t' := s₁.toks) hk) fin)))
/-- the reading of any (stop = true), all (stop = false); ig: the slot that keeps the code object for generator expressions within -/
def tAnyG (Pre : Hp → Prop) (Post : Hp → Hp → Value → Prop) (ig : Option Nat) (stop : Bool) (wi : TI) (g : TG) (tt : Value → TT) (te : Value → TE) (vs : List Nat) : TE := fun σ H Q => wi σ H fun J H1 => Pre H1 ∧ ∀ H2 code, Post H1 H2 code →
  ∃ W : Nat → Nat → Hp → Prop, (∃ m, W 0 m H2) ∧ TnW J g (tt code) (te code) vs (ghost ig code (wipe σ vs)) (fun y H4 Nx => ∃ b, y = .bl b ∧ if b = stop then Q (.bl stop) H4 else Nx H4) (Q (.bl (!stop))) W
/-- the body's parts, wherever it runs -/
structure GnParts (X : Cx) (k : Nat) (scope : Scope) (elt tg : Expr) (ifs : List Expr) (g : TG) (tt : Value → TT) (te : Value → TE) : Prop where
  g : ∀ (s : Shared) (H : Hp) (A' : Around) (cl : List (Str × Addr)) (L : Addr) (code : Value) (fp : List Addr), Room k A' → PG (gnC X s H A' (genEnv scope cl L code builtinsNs X.env) fp) tg g
  t : ∀ (s : Shared) (H : Hp) (A' : Around) (cl : List (Str × Addr)) (L : Addr) (code : Value) (fp : List Addr), Room k A' → PTs (gnC X s H A' (genEnv scope cl L code builtinsNs X.env) fp) ifs (tt code)
  e : ∀ (s : Shared) (H : Hp) (A' : Around) (cl : List (Str × Addr)) (L : Addr) (code : Value) (fp : List Addr), Room k A' → PE (gnC X s H A' (genEnv scope cl L code builtinsNs X.env) fp) elt (te code)
section
variable {X : Cx} {pins : List (Addr × Obj)} {σ : L2.St} {elt tg iter : Expr} {ifs : List Expr} {scope : Scope} {gpos : Pos} {own : List (Str × Nat)} {g : TG} {tt : Value → TT} {te : Value → TE} {k : Nat} {ig : Option Nat}
/-- what a consumer needs of a generator expression that was made -/
theorem gn_enter {Q : It → Hp → Value → Prop} {v : Value} {s5 : Shared} {A₁ : Around} (hr : Room (k + 1) A₁) (hfr : A₁.frames = X.A.frames) (hN : X.N.Nodup) (ok : GnOk X.N X.env.scope scope own) (hig : ∀ i, ig = some i → ∀ x, X.N[i]? = some x → ¬ Vis scope x) (pt : GnParts X k scope elt tg ifs g tt te)
    (M : GnMade X pins σ elt tg iter ifs scope gpos Q v s5) :
    ∃ (a gn : Nat) (B : Cx) (gp : List (Addr × Obj)) (fp : List Addr) (tn : Nat → Heap → Prop) (J : It) (H2 : Hp) (gs : GenState) (code : Value), v = .ref a ∧ B.prog = X.prog ∧ B.w = X.w ∧ B.K = X.K ∧ s5.heap.IsGen a gn ∧ (∃ (go : Obj) (nm qn : Value), (a, go) ∈ gp ∧ go.cls = .type "generator" ∧ go.data = .fields #[.int gn 0, nm, qn] ∧ go.slots = #[]) ∧
      Inv B gp (ghost ig code (wipe σ (own.map (·.2)))) H2 s5 ∧ s5.gens[gn]? = some gs ∧ Q J H2 code ∧ (∀ σ' H' s', Inv B gp σ' H' s' → Inv X pins σ H' s') ∧ (∀ b ∈ fp, H2 b = none) ∧ tn 0 s5.heap ∧ ((∀ i h h', tn i h → (∀ b ∈ fp, ∀ o, h.get? b = some o → h'.get? b = some o) → tn i h') ∧ ∀ b ∈ fp, b < s5.heap.objs.size) ∧
      ∀ (C : V → Hp → (Hp → Prop) → Prop) (F : Hp → Prop) (W : Nat → Nat → Hp → Prop), TnW J g (tt code) (te code) (own.map (·.2)) (ghost ig code (wipe σ (own.map (·.2)))) C F W → ∀ (m n : Nat) (s' : Shared) (G : Hp), m < n → Inv B gp (ghost ig code (wipe σ (own.map (·.2)))) G s' → tn 0 s'.heap → (∀ b ∈ fp, G b = none) → W 0 m G →
        gs.Goes (model X.prog X.w) A₁ (fun n s₀ r s₁ => r = .ok .next ∧ GnR B gp fp (ghost ig code (wipe σ (own.map (·.2)))) F n s₀ s₁) (GnY B gp fp tn (ghost ig code (wipe σ (own.map (·.2)))) C) n (.send .none) s' := by
  obtain ⟨a, gn, it, fp, tn, J, H2, s4, code, go, rfl, I4, turns, fp4, st, hgen, hgo, hnc, hlt, hgs, hbare, hos, ⟨m', hns⟩, keep, kc, q⟩ := M
  have hA : (gnA A₁ elt tg iter ifs scope gpos it (genEnv scope (cellsFrom (s4.heap.objs.size + 1) scope.names (cloFrom X.env.cells scope.names [])) s4.heap.objs.size code builtinsNs X.env)).frames = some (genEnv scope (cellsFrom (s4.heap.objs.size + 1) scope.names (cloFrom X.env.cells scope.names [])) s4.heap.objs.size code builtinsNs X.env :: X.stack) := gnA_frames (hfr.trans I4.ok.frames)
  have room := gnA_room (elt := elt) (tg := tg) (iter := iter) (ifs := ifs) (scope := scope) (pos := gpos) (it := it) (cenv := genEnv scope (cellsFrom (s4.heap.objs.size + 1) scope.names (cloFrom X.env.cells scope.names [])) s4.heap.objs.size code builtinsNs X.env) hr
  obtain ⟨h5, g5, d5, t5, o5⟩ := s5
  obtain rfl : o5 = s4.os := hos
  have IB0 := gn_start (X := X) (own := own) (gp := [(a, go)]) (t' := t5) I4 ok hN fp4 hA hr.hd hns keep hbare kc (fun p hp => by rw [List.mem_singleton.mp hp]; exact ⟨hgo, hlt, hnc⟩)
  have IB := ghost_ok (Inv.gens (g' := g5) (t' := t5) (d' := d5) IB0 hbare) ig code hig
  obtain ⟨go', nm, qn, e1, e2, e3, e4⟩ := id hgen
  rw [hgo] at e1
  cases e1
  have gpf : ∀ p ∈ [(a, go)], p.1 ∉ fp := fun p hp hm => by
    rw [List.mem_singleton.mp hp] at hm
    exact absurd (Nat.lt_trans (fp4 a hm).2 hlt) (Nat.lt_irrefl _)
  refine ⟨a, gn, gnC X s4 H2 (gnA A₁ elt tg iter ifs scope gpos it (genEnv scope (cellsFrom (s4.heap.objs.size + 1) scope.names (cloFrom X.env.cells scope.names [])) s4.heap.objs.size code builtinsNs X.env)) (genEnv scope (cellsFrom (s4.heap.objs.size + 1) scope.names (cloFrom X.env.cells scope.names [])) s4.heap.objs.size code builtinsNs X.env) fp, [(a, go)], fp, tn, J, H2, _, code, rfl, rfl, rfl, rfl, hgen, ⟨go, nm, qn, List.mem_singleton.mpr rfl, e2, e3, e4⟩, IB, hgs, q, fun σ' H' s' I' => ?_, fun b hb => (fp4 b hb).1.1, st, ⟨turns.keep, fun b hb => ?_⟩, fun C F W turn m n s' G hn I' st' no w => ?_⟩
  · exact I4.call' (ch := fp) I'.os I'.base I'.hok I'.bare fun b hb => by
      obtain ⟨⟨q1, q2, q3, q4, q5, q6⟩, _⟩ := fp4 b hb
      exact ⟨q4, q2, q5, q6⟩
  · obtain ⟨o, e, _⟩ := turns.obj _ _ st b hb
    exact Heap.lt_size e
  · refine ⟨rfl, ?_⟩
    exact seg_gnStart (B := gnC X s4 H2 (gnA A₁ elt tg iter ifs scope gpos it (genEnv scope (cellsFrom (s4.heap.objs.size + 1) scope.names (cloFrom X.env.cells scope.names [])) s4.heap.objs.size code builtinsNs X.env)) (genEnv scope (cellsFrom (s4.heap.objs.size + 1) scope.names (cloFrom X.env.cells scope.names [])) s4.heap.objs.size code builtinsNs X.env) fp) rfl rfl ok.co rfl turns (fun {pins τ G z} Iz hp no b hb => ⟨no b hb, (Iz.ok.exf b hb).1, Iz.ok.exfs b hb, .inl hb, fun x c e => (Iz.ok.exf b hb).2 x c e, fun p hpm e => hp p ((List.mem_append.mp hpm).elim (fun z => absurd z (by simp)) id) (by rw [e]; exact hb)⟩) gpf
      (pt.g _ _ _ (cellsFrom (s4.heap.objs.size + 1) scope.names (cloFrom X.env.cells scope.names [])) s4.heap.objs.size code fp room) (pt.t _ _ _ (cellsFrom (s4.heap.objs.size + 1) scope.names (cloFrom X.env.cells scope.names [])) s4.heap.objs.size code fp room) (pt.e _ _ _ (cellsFrom (s4.heap.objs.size + 1) scope.names (cloFrom X.env.cells scope.names [])) s4.heap.objs.size code fp room) turn m n s' s' G hn I' st' no w
theorem pe_gnAny {wi : TI} {P0 : Addr} {p pos : Pos} {Pre : Hp → Prop} {Post : Hp → Hp → Value → Prop} (stop : Bool) (nm : Str) (hnm : (nm = "any" ∧ stop = true) ∨ (nm = "all" ∧ stop = false)) (hr : Room (k + 3) X.A) (hgl : Gl X nm) (hm : X.mg nm = none) (hbm : X.base.BuiltinsAt X.mg P0) (cs : CodeStep X gpos scope Pre Post) (hN : X.N.Nodup) (ok : GnOk X.N X.env.scope scope own) (hig : ∀ i, ig = some i → ∀ x, X.N[i]? = some x → ¬ Vis scope x)
    (hi : PI X tg iter wi) (hs : ∀ v, genFold iter X.env v = pure v) (pt : GnParts X k scope elt tg ifs g tt te)
    (hst : starEach [.GeneratorExp elt [⟨tg, iter, ifs, 0⟩] scope gpos] X.env = (false, eval (.GeneratorExp elt [⟨tg, iter, ifs, 0⟩] scope gpos) X.env) :: starEach [] X.env := by rfl) :
    PE X (.Call (.Name nm p) [.GeneratorExp elt [⟨tg, iter, ifs, 0⟩] scope gpos] [] pos) (tAnyG Pre Post ig stop wi g tt te (own.map (·.2))) := by
  refine ⟨fun pins s σ H Q I h => ?_⟩
  have hb : bootBuiltins nm = some (.builtin (if stop = true then "any" else "all")) := by
    rcases hnm with ⟨rfl, rfl⟩ | ⟨rfl, rfl⟩ <;> decide +kernel
  have hd : nm ≠ "__name__" ∧ (nm == ("__debug__" : Str)) = false := by
    rcases hnm with ⟨rfl, rfl⟩ | ⟨rfl, rfl⟩ <;> exact ⟨by decide, by decide⟩
  refine wpAny_Call_Name_kw (ld_blt I hgl hm hb ?_ hd.1 hd.2)
  refine PyProof.Rows.callWith_builtin1 ?_ hst (by rfl)
  rw [hst]
  show wpAny _ _ (spliced ((false, eval (.GeneratorExp elt [⟨tg, iter, ifs, 0⟩] scope gpos) X.env) :: backTo pos (starEach [] X.env))) _ _ s
  refine Calls.spliced_cons (thn (gn_make hr hbm cs ok hi hs I h) fun v s5 M => ?_)
  refine Calls.spliced_nil ?_
  have hr1 : Room (k + 1) X.A.in1.in1 := ⟨hr.hd, by have := hr.dp; show X.A.depth + 3 * (k + 1) + 5 < _; omega, by have := hr.un; show X.A.units + 1 + 1 + 16 * (k + 1) + 200 < _; omega⟩
  obtain ⟨a, gn, B, gp, fp, tn, J, H2, gs, code, rfl, hp, hw, hK, hgen, gpa, IB, hgs, ⟨W, ⟨m0, w0⟩, turn⟩, back, no, st, _, goes⟩ := gn_enter (k := k) (A₁ := X.A.in1.in1) hr1 rfl hN ok hig pt M
  rw [← hp, ← hw] at goes ⊢
  have hdep : X.A.depth < recursionLimit := by have := hr.dp; omega
  have start := goes _ _ W turn m0 (m0 + 1) (s5.setGen gn .running) H2 (Nat.lt_succ_self _) (Inv.setG (g := gn) (x := .running) IB rfl) st no w0
  rcases hnm with ⟨rfl, rfl⟩ | ⟨rfl, rfl⟩
  · show wpAny _ _ (call (.builtin "any") [.ref a]) _ _ _
    refine call_function_tree F.kind_any F.plain_any F.entry_any (F.args_any1 _) ?_
    unfold Builtin.«any»
    refine wpAny_bind (m := oneArg "any" _) (wpAny_pure ?_)
    refine wpAny_bind (wpAny_pyIter_gen hgen ?_)
    refine wpAny_pure ⟨plainId_quiet F.plain_any_loop _, gn_any_loop hr.hd hdep gpa (fun b s' G' I' q => ?_) (m0 + 1) _ H2 IB ⟨gs, hgs, start⟩⟩
    exact ⟨.bl b, G', back _ _ _ I', rfl, q⟩
  · show wpAny _ _ (call (.builtin "all") [.ref a]) _ _ _
    refine call_function_tree F.kind_all F.plain_all F.entry_all (F.args_all1 _) ?_
    unfold Builtin.«all»
    refine wpAny_bind (m := oneArg "all" _) (wpAny_pure ?_)
    refine wpAny_bind (wpAny_pyIter_gen hgen ?_)
    refine wpAny_pure ⟨plainId_quiet F.plain_all_loop _, gn_all_loop hr.hd hdep gpa (fun b s' G' I' q => ?_) (m0 + 1) _ H2 IB ⟨gs, hgs, start⟩⟩
    exact ⟨.bl b, G', back _ _ _ I', rfl, q⟩
end
end Pr

/-! tuple over such generator expressions -/
namespace Pr
open PySem PySem.Spec PyProof.Rows L2 LamX NdefX
open PySem.AutoSeq1 (wpAny_loadPart')
section
variable {X : Cx} {pins : List (Addr × Obj)} {σ : L2.St} {elt tg iter : Expr} {ifs : List Expr} {scope : Scope} {gpos : Pos} {own : List (Str × Nat)} {g : TG} {tt : Value → TT} {te : Value → TE} {k : Nat} {ig : Option Nat}
end
end Pr

/-! values with all that stands within them; a store of what changes; readings over these -/
namespace Dn
open PySem PySem.Spec PyProof.Rows L2 Pr
inductive Dt where
  | non | bl (b : Bool) | int (i : Int) | str (z : Str) | ref (a : Addr) | ty (n : String)
  | tup (l : List Dt) | lst (l : List Dt) | dic (l : List (Key × Dt))
  /-- an instance that stands still: its class, the names of its attributes in the order of their making, the values of the first of them -/
  | obj (C : Addr) (nm : List Str) (l : List Dt)
  /-- the script -/
  | scr (ns : List Int)
  /-- a lambda, kept -/
  | lam (F : NdefX.NF) (b : Expr)
  /-- a tuple that has no attributes of its own (dict() asks) -/
  | ptp (l : List Dt)
  /-- a generator expression's code object, kept for those within it -/
  | gco (c P : Addr)
/-- what stands at an address that may change -/
inductive Cell where
  | lst (l : List Dt) | dic (l : List (Key × Dt)) | dct (l : List (List Key × Dt)) | lck (o : HO) (l : List (Key × Dt))
  | ins (C : Addr) (nm : List Str) (l : List Dt)
  /-- the table of codes of a def, for lambdas and generators of this name -/
  | tbl (q : Str)
  /-- the table of a def whose generator expressions' code objects are known -/
  | gtb
abbrev Store := Addr → Option Cell
abbrev DS := List (Option Dt)
abbrev DK := Dt → Store → Prop
abbrev DX := Addr → Store → Prop
/-- a text that the machine can hold -/
structure SOk (z : Str) : Prop where
  len : z.length ≤ sizeLine
  ok : PySem.PyData.strOk z = true
def KOk : Key → Prop
  | .inl _ => True
  | .inr z => SOk z
section
variable (K : PySem.W.Frag) (G : Hp)
mutual
def Rep : Dt → V → Prop
  | .non, v => v = .non
  | .bl b, v => v = .bl b
  | .int i, v => v = .int i
  | .str z, v => v = .str z ∧ SOk z
  | .ref a, v => v = .ref a
  | .ty n, v => v = .ty n
  | .tup l, v => ∃ a vs, v = .ref a ∧ SqT K G a vs ∧ Reps l vs
  | .ptp l, v => ∃ a vs, v = .ref a ∧ (∃ o : Obj, o.dict = none ∧ G a = some (.frz o (.tup vs))) ∧ Reps l vs
  | .lst l, v => ∃ a vs, v = .ref a ∧ G a = some (.lst vs) ∧ Reps l vs
  | .dic l, v => ∃ a kvs, v = .ref a ∧ Rd G a (.dK kvs) ∧ Repk l kvs
  | .obj C nm l, v => ∃ a dx vs, v = .ref a ∧ G a = some (.ins C dx ((nm.take l.length).zip vs)) ∧ Reps l vs ∧ l.length ≤ nm.length
  | .scr ns, v => ∃ a, v = .ref a ∧ SqL K G a (ns.map V.int)
  | .gco c P, v => v = .ref c ∧ G c = some (GCode c P) ∧ G P = some (GTabO P)
  | .lam F b, v => ∃ f, v = .ref f ∧ G f = some (LmO f F b) ∧ G F.c = some (LamX.CodeO F.c F.qual)
def Reps : List Dt → List V → Prop
  | [], vs => vs = []
  | d :: l, vs => ∃ v r, vs = v :: r ∧ Rep d v ∧ Reps l r
def Repk : List (Key × Dt) → List (Key × V) → Prop
  | [], kvs => kvs = []
  | (k, d) :: l, kvs => ∃ v r, kvs = (k, v) :: r ∧ (KOk k ∧ Rep d v) ∧ Repk l r
end
def Rept : List (List Key × Dt) → List (List Key × V) → Prop
  | [], kvs => kvs = []
  | (k, d) :: l, kvs => ∃ v r, kvs = (k, v) :: r ∧ ((∀ x ∈ k, KOk x) ∧ Rep K G d v) ∧ Rept l r
def CRep : Cell → HO → Prop
  | .lst l, o => ∃ vs, o = .lst vs ∧ Reps K G l vs
  | .dic l, o => ∃ kvs, o = .dK kvs ∧ Repk K G l kvs
  | .dct l, o => ∃ kvs, o = .dT kvs ∧ Rept K G l kvs
  | .lck u l, o => o = u ∧ ∃ ob kvs, o = .frz ob (.dK kvs) ∧ Repk K G l kvs
  | .ins C nm l, o => ∃ dx vs, o = .ins C dx ((nm.take l.length).zip vs) ∧ Reps K G l vs ∧ l.length ≤ nm.length
  | .gtb, o => ∃ ps : Array Value, o = .tbl ps ∧ TriplesOk ps.toList ∧ ∀ (pos : Pos) (cv : Value), codeAmong pos ps.toList = some cv → ∃ c P', cv = .ref c ∧ G c = some (GCode c P') ∧ G P' = some (GTabO P')
  | .tbl q, o => ∃ ps : Array Value, o = .tbl ps ∧ TriplesOk ps.toList ∧ ∀ (pos : Pos) (cv : Value), codeAmong pos ps.toList = some cv → ∃ c, cv = .ref c ∧ G c = some (LamX.CodeO c q)
end
/-- a dict, walked or not -/
def IsDk (o : HO) (kvs : List (Key × V)) : Prop := o = .dK kvs ∨ ∃ ob, o = .frz ob (.dK kvs)
/-- all that G holds G' holds; a dict may be walked in the one and not in the other -/
def Alt (o o' : HO) : Prop := o = o' ∨ ∃ kvs, IsDk o kvs ∧ IsDk o' kvs
def IsTb (o : HO) : Prop := ∃ ps, o = .tbl ps
/-- of tables that stand aside nothing is told -/
def Ext (G G' : Hp) : Prop := ∀ b o, G b = some o → ¬ IsTb o → ∃ o', G' b = some o' ∧ Alt o o'
theorem IsDk.uniq {o : HO} {k1 k2 : List (Key × V)} (a : IsDk o k1) (b : IsDk o k2) : k1 = k2 := by
  rcases a with rfl | ⟨ob, rfl⟩ <;> rcases b with h | ⟨ob2, h⟩ <;> cases h <;> rfl
theorem Alt.trans {o o1 o2 : HO} (a : Alt o o1) (b : Alt o1 o2) : Alt o o2 := by
  rcases a with rfl | ⟨k1, x1, y1⟩
  · exact b
  · rcases b with rfl | ⟨k2, x2, y2⟩
    · exact .inr ⟨k1, x1, y1⟩
    · have := y1.uniq x2
      subst this
      exact .inr ⟨k1, x1, y2⟩
/-- what is neither a dict nor a table -/
def Still : HO → Prop
  | .dK _ => False
  | .frz _ (.dK _) => False
  | .tbl _ => False
  | _ => True
theorem Alt.still {o o' : HO} (a : Alt o o') (h : Still o) : o' = o := by
  rcases a with rfl | ⟨k, x, y⟩
  · rfl
  · rcases x with rfl | ⟨ob, rfl⟩ <;> exact h.elim
theorem Alt.noTb {o o' : HO} (a : Alt o o') (h : ¬ IsTb o) : ¬ IsTb o' := by
  rcases a with rfl | ⟨k, x, y⟩
  · exact h
  · rintro ⟨ps, rfl⟩
    rcases y with y | ⟨_, y⟩ <;> cases y
theorem Ext.refl {G : Hp} : Ext G G := fun _ o h _ => ⟨o, h, .inl rfl⟩
theorem Ext.trans {G G1 G2 : Hp} (a : Ext G G1) (b : Ext G1 G2) : Ext G G2 := fun c o h n => by
  obtain ⟨o1, h1, e1⟩ := a c o h n
  obtain ⟨o2, h2, e2⟩ := b c o1 h1 (e1.noTb n)
  exact ⟨o2, h2, e1.trans e2⟩
theorem Ext.of {G G' : Hp} (h : ∀ b o, G b = some o → G' b = some o) : Ext G G' := fun b o e _ => ⟨o, h b o e, .inl rfl⟩
theorem Still.noTb {o : HO} (s : Still o) : ¬ IsTb o := by
  rintro ⟨ps, rfl⟩
  exact s
theorem Ext.still {G G' : Hp} {a : Addr} {o : HO} (e : Ext G G') (h : G a = some o) (s : Still o) : G' a = some o := by
  obtain ⟨o', h', z⟩ := e a _ h s.noTb
  rw [h', z.still s]
theorem Ext.lst {G G' : Hp} {a : Addr} {vs : List V} (e : Ext G G') (h : G a = some (.lst vs)) : G' a = some (.lst vs) := e.still h trivial
theorem Ext.ins {G G' : Hp} {a C dx : Addr} {fs : List (Str × V)} (e : Ext G G') (h : G a = some (.ins C dx fs)) : G' a = some (.ins C dx fs) := e.still h trivial
theorem Ext.tup {K : PySem.W.Frag} {G G' : Hp} {a : Addr} {vs : List V} (e : Ext G G') (h : SqT K G a vs) : SqT K G' a vs := by
  rcases h with (h | ⟨ob, h⟩) | h
  · exact .inl (.inl (e.still h trivial))
  · exact .inl (.inr ⟨ob, e.still h trivial⟩)
  · exact .inr h
theorem Ext.scr {K : PySem.W.Frag} {G G' : Hp} {a : Addr} {vs : List V} (e : Ext G G') (h : SqL K G a vs) : SqL K G' a vs := by
  rcases h with (h | ⟨ob, h⟩) | h
  · exact .inl (.inl (e.still h trivial))
  · exact .inl (.inr ⟨ob, e.still h trivial⟩)
  · exact .inr h
theorem Ext.dic {G G' : Hp} {a : Addr} {kvs : List (Key × V)} (e : Ext G G') (h : Rd G a (.dK kvs)) : Rd G' a (.dK kvs) := by
  have fin : ∀ o, G a = some o → IsDk o kvs → Rd G' a (.dK kvs) := fun o h q => by
    obtain ⟨o', h', z⟩ := e a _ h (by
      rintro ⟨ps, rfl⟩
      rcases q with h | ⟨_, h⟩ <;> cases h)
    have : IsDk o' kvs := by
      rcases z with rfl | ⟨k, x, y⟩
      · exact q
      · have := x.uniq q
        subst this
        exact y
    rcases this with rfl | ⟨ob, rfl⟩
    · exact .inl h'
    · exact .inr ⟨ob, h'⟩
  rcases h with h | ⟨ob, h⟩
  · exact fin _ h (.inl rfl)
  · exact fin _ h (.inr ⟨ob, rfl⟩)
section
variable {K : PySem.W.Frag} {G G' : Hp}
mutual
theorem Rep.ext (e : Ext G G') : ∀ (d : Dt) (v : V), Rep K G d v → Rep K G' d v
  | .non, _, h | .bl _, _, h | .int _, _, h | .str _, _, h | .ref _, _, h | .ty _, _, h => h
  | .tup l, v, ⟨a, vs, h1, h2, h3⟩ => ⟨a, vs, h1, e.tup h2, Reps.ext e l vs h3⟩
  | .ptp l, v, ⟨a, vs, h1, ⟨o, ho, h2⟩, h3⟩ => ⟨a, vs, h1, ⟨o, ho, e.still h2 trivial⟩, Reps.ext e l vs h3⟩
  | .lst l, v, ⟨a, vs, h1, h2, h3⟩ => ⟨a, vs, h1, e.lst h2, Reps.ext e l vs h3⟩
  | .dic l, v, ⟨a, vs, h1, h2, h3⟩ => ⟨a, vs, h1, e.dic h2, Repk.ext e l vs h3⟩
  | .obj C nm l, v, ⟨a, dx, vs, h1, h2, h3, h4⟩ => ⟨a, dx, vs, h1, e.ins h2, Reps.ext e l vs h3, h4⟩
  | .scr ns, v, ⟨a, h1, h2⟩ => ⟨a, h1, e.scr h2⟩
  | .gco c P, v, ⟨h1, h2, h3⟩ => ⟨h1, e.still h2 trivial, e.still h3 trivial⟩
  | .lam F b, v, ⟨f, h1, h2, h3⟩ => ⟨f, h1, e.still h2 trivial, e.still h3 trivial⟩
theorem Reps.ext (e : Ext G G') : ∀ (l : List Dt) (vs : List V), Reps K G l vs → Reps K G' l vs
  | [], _, h => h
  | d :: l, vs, ⟨v, r, h1, h2, h3⟩ => ⟨v, r, h1, Rep.ext e d v h2, Reps.ext e l r h3⟩
theorem Repk.ext (e : Ext G G') : ∀ (l : List (Key × Dt)) (vs : List (Key × V)), Repk K G l vs → Repk K G' l vs
  | [], _, h => h
  | (k, d) :: l, vs, ⟨v, r, h1, h2, h3⟩ => ⟨v, r, h1, ⟨h2.1, Rep.ext e d v h2.2⟩, Repk.ext e l r h3⟩
end
theorem Rept.ext (e : Ext G G') : ∀ (l : List (List Key × Dt)) (vs : List (List Key × V)), Rept K G l vs → Rept K G' l vs
  | [], _, h => h
  | (k, d) :: l, vs, ⟨v, r, h1, h2, h3⟩ => ⟨v, r, h1, ⟨h2.1, Rep.ext e d v h2.2⟩, Rept.ext e l r h3⟩
theorem CRep.ext (e : Ext G G') (c : Cell) (o : HO) (h : CRep K G c o) : CRep K G' c o := by
  cases c with
  | lst l => obtain ⟨vs, h1, h2⟩ := h; exact ⟨vs, h1, Reps.ext e _ _ h2⟩
  | dic l => obtain ⟨vs, h1, h2⟩ := h; exact ⟨vs, h1, Repk.ext e _ _ h2⟩
  | dct l => obtain ⟨vs, h1, h2⟩ := h; exact ⟨vs, h1, Rept.ext e _ _ h2⟩
  | lck u l => obtain ⟨h0, ob, vs, h1, h2⟩ := h; exact ⟨h0, ob, vs, h1, Repk.ext e _ _ h2⟩
  | ins C nm l => obtain ⟨dx, vs, h1, h2, h3⟩ := h; exact ⟨dx, vs, h1, Reps.ext e _ _ h2, h3⟩
  | tbl q =>
    obtain ⟨ps, h1, h2, h3⟩ := h
    refine ⟨ps, h1, h2, fun pos cv hc => ?_⟩
    obtain ⟨c, e1, e2⟩ := h3 pos cv hc
    exact ⟨c, e1, e.still e2 trivial⟩
  | gtb =>
    obtain ⟨ps, h1, h2, h3⟩ := h
    refine ⟨ps, h1, h2, fun pos cv hc => ?_⟩
    obtain ⟨c, P', e1, e2, e3⟩ := h3 pos cv hc
    exact ⟨c, P', e1, e.still e2 trivial, e.still e3 trivial⟩
theorem Reps.pair : ∀ {l : List Dt} {vs : List V}, Reps K G l vs ↔ Paired (Rep K G) l vs
  | [], vs => ⟨fun h => by rw [show vs = [] from h]; exact .nil, fun h => by cases h; exact rfl⟩
  | d :: l, vs => ⟨fun ⟨v, r, e, h1, h2⟩ => by rw [e]; exact .cons h1 (Reps.pair.mp h2), fun h => by
    cases h with
    | cons h1 h2 => exact ⟨_, _, rfl, h1, Reps.pair.mpr h2⟩⟩
theorem Reps.len {l : List Dt} {vs : List V} (h : Reps K G l vs) : l.length = vs.length := Paired.length (Reps.pair.mp h)
theorem Repk.pair : ∀ {l : List (Key × Dt)} {vs : List (Key × V)}, Repk K G l vs ↔ Paired (fun p q => p.1 = q.1 ∧ (KOk p.1 ∧ Rep K G p.2 q.2)) l vs
  | [], vs => ⟨fun h => by rw [show vs = [] from h]; exact .nil, fun h => by cases h; exact rfl⟩
  | (k, d) :: l, vs => ⟨fun ⟨v, r, e, h1, h2⟩ => by rw [e]; exact .cons ⟨rfl, h1⟩ (Repk.pair.mp h2), fun h => by
    cases h with
    | @cons _ q _ r h1 h2 =>
      obtain ⟨q1, q2⟩ := q
      obtain ⟨e, h1⟩ := h1
      cases e
      exact ⟨_, _, rfl, h1, Repk.pair.mpr h2⟩⟩
theorem Rept.pair : ∀ {l : List (List Key × Dt)} {vs : List (List Key × V)}, Rept K G l vs ↔ Paired (fun p q => p.1 = q.1 ∧ ((∀ x ∈ p.1, KOk x) ∧ Rep K G p.2 q.2)) l vs
  | [], vs => ⟨fun h => by rw [show vs = [] from h]; exact .nil, fun h => by cases h; exact rfl⟩
  | (k, d) :: l, vs => ⟨fun ⟨v, r, e, h1, h2⟩ => by rw [e]; exact .cons ⟨rfl, h1⟩ (Rept.pair.mp h2), fun h => by
    cases h with
    | @cons _ q _ r h1 h2 =>
      obtain ⟨q1, q2⟩ := q
      obtain ⟨e, h1⟩ := h1
      cases e
      exact ⟨_, _, rfl, h1, Rept.pair.mpr h2⟩⟩
end
section
variable {α β : Type} {F : α → β → Prop}
theorem Paired.get : ∀ {l : List α} {m : List β} {i : Nat} {x : α}, Paired F l m → l[i]? = some x → ∃ y, m[i]? = some y ∧ F x y
  | _, _, i, x, .nil, h => by simp at h
  | _, _, 0, x, .cons r t, h => by simp at h; subst h; exact ⟨_, rfl, r⟩
  | _, _, i + 1, x, .cons r t, h => by
    obtain ⟨y, h1, h2⟩ := Paired.get (i := i) t (by simpa using h)
    exact ⟨y, by simpa using h1, h2⟩
theorem Paired.get' : ∀ {l : List α} {m : List β} {i : Nat} {y : β}, Paired F l m → m[i]? = some y → ∃ x, l[i]? = some x ∧ F x y
  | _, _, i, x, .nil, h => by simp at h
  | _, _, 0, x, .cons r t, h => by simp at h; subst h; exact ⟨_, rfl, r⟩
  | _, _, i + 1, x, .cons r t, h => by
    obtain ⟨y, h1, h2⟩ := Paired.get' (i := i) t (by simpa using h)
    exact ⟨y, by simpa using h1, h2⟩
theorem Paired.app : ∀ {l l' : List α} {m m' : List β}, Paired F l m → Paired F l' m' → Paired F (l ++ l') (m ++ m')
  | _, _, _, _, .nil, h => h
  | _, _, _, _, .cons r t, h => .cons r (Paired.app t h)
theorem Paired.setp {x : α} {y : β} (r : F x y) : ∀ {l : List α} {m : List β} (i : Nat), Paired F l m → Paired F (l.set i x) (m.set i y)
  | _, _, _, .nil => .nil
  | _, _, 0, .cons _ t => .cons r t
  | _, _, i + 1, .cons q t => .cons q (Paired.setp r i t)
theorem Paired.drop : ∀ {l : List α} {m : List β} (n : Nat), Paired F l m → Paired F (l.drop n) (m.drop n)
  | _, _, 0, h => h
  | _, _, _ + 1, .nil => .nil
  | _, _, n + 1, .cons _ t => Paired.drop n t
theorem Paired.take : ∀ {l : List α} {m : List β} (n : Nat), Paired F l m → Paired F (l.take n) (m.take n)
  | _, _, 0, _ => .nil
  | _, _, _ + 1, .nil => .nil
  | _, _, n + 1, .cons r t => .cons r (Paired.take n t)
theorem Paired.rev : ∀ {l : List α} {m : List β}, Paired F l m → Paired F l.reverse m.reverse
  | _, _, .nil => .nil
  | _, _, .cons r t => by rw [List.reverse_cons, List.reverse_cons]; exact Paired.app (Paired.rev t) (.cons r .nil)
end
/-! ## the heap beside the store -/
/-- what stands still: all but the store's and what is hidden -/
def out (H : Hp) (S : Store) (Z : Hp) : Hp := fun b => if (S b).isSome = true ∨ (Z b).isSome = true then none else H b
def sput (S : Store) (a : Addr) (c : Cell) : Store := fun b => if b = a then some c else S b
def sdel (S : Store) (a : Addr) : Store := fun b => if b = a then none else S b
theorem sput_same {S : Store} {a : Addr} {c : Cell} : sput S a c a = some c := by unfold sput; rw [if_pos rfl]
theorem sput_ne {S : Store} {a b : Addr} {c : Cell} (h : b ≠ a) : sput S a c b = S b := by unfold sput; rw [if_neg h]
theorem sdel_ne {S : Store} {a b : Addr} (h : b ≠ a) : sdel S a b = S b := by unfold sdel; rw [if_neg h]
theorem sput_sput {S : Store} {a : Addr} {c d : Cell} : sput (sput S a c) a d = sput S a d := by
  funext b; unfold sput; split <;> rfl
/-- what is hidden: lists, dicts under way -/
def Hid (o : HO) : Prop := (∃ vs, o = .lst vs) ∨ ∃ kvs, o = .dK kvs
structure Good (K : PySem.W.Frag) (Z H : Hp) (S : Store) : Prop where
  z : ∀ b o, Z b = some o → H b = some o ∧ S b = none ∧ Hid o
  c : ∀ a x, S a = some x → ∃ o, H a = some o ∧ CRep K (out H S Z) x o
section
variable {K : PySem.W.Frag} {Z H H' : Hp} {S S' : Store} {a p : Addr} {o : HO}
theorem out_some {b : Addr} (h : out H S Z b = some o) : S b = none ∧ Z b = none ∧ H b = some o := by
  unfold out at h
  split at h
  · cases h
  · rename_i n
    refine ⟨?_, ?_, h⟩
    · cases e : S b with
      | none => rfl
      | some x => exact absurd (.inl (by rw [e]; rfl)) n
    · cases e : Z b with
      | none => rfl
      | some x => exact absurd (.inr (by rw [e]; rfl)) n
theorem out_of {b : Addr} (h1 : S b = none) (h2 : Z b = none) : out H S Z b = H b := by
  unfold out
  rw [if_neg]
  rintro (h | h)
  · rw [h1] at h; cases h
  · rw [h2] at h; cases h
theorem Good.nS (g : Good K Z H S) (n : H p = none) : S p = none := by
  cases e : S p with
  | none => rfl
  | some x => obtain ⟨o, h, _⟩ := g.c p x e; rw [n] at h; cases h
theorem Good.nZ (g : Good K Z H S) (n : H p = none) : Z p = none := by
  cases e : Z p with
  | none => rfl
  | some x => have := (g.z p x e).1; rw [n] at this; cases this
/-- a new thing that stands still -/
theorem ext_new (g : Good K Z H S) (n : H p = none) : Ext (out H S Z) (out (upd H p o) S Z) := Ext.of fun b o' h => by
  obtain ⟨h1, h2, h3⟩ := out_some h
  rw [out_of h1 h2, upd_ne (ne_of_none h3 n)]
  exact h3
theorem Good.new (g : Good K Z H S) (n : H p = none) : Good K Z (upd H p o) S := by
  have e := ext_new (o := o) g n
  refine ⟨fun b o' h => ⟨(upd_ne (ne_of_none (g.z b o' h).1 n)).trans (g.z b o' h).1, (g.z b o' h).2⟩, fun b x h => ?_⟩
  obtain ⟨o', h1, h2⟩ := g.c b x h
  exact ⟨o', (upd_ne (ne_of_none h1 n)).trans h1, CRep.ext e _ _ h2⟩
theorem out_new (g : Good K Z H S) (n : H p = none) : out (upd H p o) S Z p = some o := by
  rw [out_of (g.nS n) (g.nZ n), upd_same]
/-- a new cell -/
theorem out_own (g : Good K Z H S) (n : H p = none) {c : Cell} : out (upd H p o) (sput S p c) Z = out H S Z := by
  funext b
  by_cases hb : b = p
  · subst hb
    have e1 : out (upd H b o) (sput S b c) Z b = none := by
      unfold out
      rw [if_pos]
      rw [sput_same]; exact .inl rfl
    rw [e1, out_of (g.nS n) (g.nZ n), n]
  · unfold out
    rw [sput_ne hb, upd_ne hb]
theorem Good.own (g : Good K Z H S) (n : H p = none) {c : Cell} (h : CRep K (out H S Z) c o) : Good K Z (upd H p o) (sput S p c) := by
  refine ⟨fun b o' e => ?_, fun b x e => ?_⟩
  · have hb := ne_of_none (g.z b o' e).1 n
    rw [upd_ne hb, sput_ne hb]
    exact g.z b o' e
  · rw [out_own g n]
    by_cases hb : b = p
    · subst hb
      rw [sput_same] at e
      cases e
      exact ⟨o, upd_same, h⟩
    · rw [sput_ne hb] at e
      rw [upd_ne hb]
      exact g.c b x e
/-- a cell changes -/
theorem out_mut {c c' : Cell} (h : S a = some c) : out (upd H a o) (sput S a c') Z = out H S Z := by
  funext b
  by_cases hb : b = a
  · subst hb
    unfold out
    rw [if_pos (.inl (by rw [sput_same]; rfl)), if_pos (.inl (by rw [h]; rfl))]
  · unfold out
    rw [sput_ne hb, upd_ne hb]
theorem Good.mut (g : Good K Z H S) {c c' : Cell} (h : S a = some c) (r : CRep K (out H S Z) c' o) : Good K Z (upd H a o) (sput S a c') := by
  refine ⟨fun b o' e => ?_, fun b x e => ?_⟩
  · have hb : b ≠ a := fun z => by
      have := (g.z b o' e).2.1
      rw [z, h] at this
      cases this
    rw [upd_ne hb, sput_ne hb]
    exact g.z b o' e
  · rw [out_mut h]
    by_cases hb : b = a
    · subst hb
      rw [sput_same] at e
      cases e
      exact ⟨o, upd_same, r⟩
    · rw [sput_ne hb] at e
      rw [upd_ne hb]
      exact g.c b x e
theorem out_le {b : Addr} (h : out H S Z b = some o) : H b = some o := (out_some h).2.2
end
/-! ## slots -/
@[reducible] def look : DS → Nat → Option Dt
  | [], _ => none
  | x :: _, 0 => x
  | _ :: l, n + 1 => look l n
@[reducible] def putS : DS → Nat → Dt → DS
  | [], _, _ => []
  | _ :: l, 0, d => some d :: l
  | x :: l, n + 1, d => x :: putS l n d
@[reducible] def wipeS : DS → Nat → DS
  | [], _ => []
  | _ :: l, 0 => none :: l
  | x :: l, n + 1 => x :: wipeS l n
def SltR (K : PySem.W.Frag) (G : Hp) (v : Option V) (d : Option Dt) : Prop := ∀ x, d = some x → ∃ u, v = some u ∧ Rep K G x u
def Slots (K : PySem.W.Frag) (G : Hp) (σ : L2.St) (δ : DS) : Prop := Paired (SltR K G) σ δ
section
variable {K : PySem.W.Frag} {G G' : Hp} {σ : L2.St} {δ : DS}
theorem Slots.ext (h : Slots K G σ δ) (e : Ext G G') : Slots K G' σ δ := Paired.mapP h fun v d q x hx => by
  obtain ⟨u, h1, h2⟩ := q x hx
  exact ⟨u, h1, Rep.ext e _ _ h2⟩
theorem look_get : ∀ {δ : DS} {i : Nat} {d : Dt}, look δ i = some d → δ[i]? = some (some d)
  | [], _, _, h => by simp [look] at h
  | x :: _, 0, d, h => by simp [look] at h; simp [h]
  | _ :: l, n + 1, d, h => by
    have : l[n]? = some (some d) := look_get (by simpa [look] using h)
    simpa using this
theorem Slots.look (h : Slots K G σ δ) {i : Nat} {d : Dt} (e : look δ i = some d) : ∃ v, σ[i]? = some (some v) ∧ Rep K G d v := by
  obtain ⟨v, h1, h2⟩ := Paired.get' h (look_get e)
  obtain ⟨u, h3, h4⟩ := h2 d rfl
  exact ⟨u, by rw [h1, h3], h4⟩
theorem putS_set : ∀ (δ : DS) (i : Nat) (d : Dt), putS δ i d = δ.set i (some d)
  | [], _, _ => rfl
  | _ :: _, 0, _ => rfl
  | x :: l, n + 1, d => by show x :: putS l n d = x :: l.set n (some d); rw [putS_set]
theorem wipeS_set : ∀ (δ : DS) (i : Nat), wipeS δ i = δ.set i none
  | [], _ => rfl
  | _ :: _, 0 => rfl
  | x :: l, n + 1 => by show x :: wipeS l n = x :: l.set n none; rw [wipeS_set]
theorem Slots.put (h : Slots K G σ δ) {i : Nat} {d : Dt} {v : V} (r : Rep K G d v) : Slots K G (σ.set i (some v)) (putS δ i d) := by
  rw [putS_set]
  exact Paired.setp (fun x hx => ⟨v, rfl, by cases hx; exact r⟩) i h
theorem Slots.wipe (h : Slots K G σ δ) {i : Nat} {o : Option V} : Slots K G (σ.set i o) (wipeS δ i) := by
  rw [wipeS_set]
  exact Paired.setp (fun x hx => by cases hx) i h
end
/-! ## readings -/
abbrev DTE := DS → Store → DK → Prop
abbrev DTT := DS → Store → (Bool → Store → Prop) → Prop
abbrev DTA := DS → Store → (List Dt → Store → Prop) → Prop
structure DEnds where
  nx : DS → Store → Prop
  rt : DK
  bk : DS → Store → Prop := fun _ _ => False
  ct : DS → Store → Prop := fun _ _ => False
abbrev DTS := DEnds → DS → Store → Prop
/-- an exception that leaves -/
def Lk (K : PySem.W.Frag) (E : XK) (e : DX) (Z G : Hp) : Prop := ∀ c H' S', Good K Z H' S' → Ext G (out H' S' Z) → e c S' → E (.ref c) none H'
theorem Lk.ext {K : PySem.W.Frag} {E : XK} {e : DX} {Z G G' : Hp} (h : Lk K E e Z G) (x : Ext G G') : Lk K E e Z G' := fun c H' S' g y q => h c H' S' g (x.trans y) q
/-- the state at which a reading stands -/
structure At (K : PySem.W.Frag) (E : XK) (e : DX) (Z H : Hp) (S : Store) (σ : L2.St) (δ : DS) : Prop where
  good : Good K Z H S
  sl : Slots K (out H S Z) σ δ
  lk : Lk K E e Z (out H S Z)
/-- behind it -/
def Ty (K : PySem.W.Frag) (Z H : Hp) (S : Store) (q : DK) (Q : VK) : Prop := ∀ v x H' S', Good K Z H' S' → Ext (out H S Z) (out H' S' Z) → Rep K (out H' S' Z) x v → q x S' → Q v H'
def tD (K : PySem.W.Frag) (E : XK) (e : DX) (d : DTE) : TE := fun σ H Q => ∃ δ S Z q, At K E e Z H S σ δ ∧ d δ S q ∧ Ty K Z H S q Q
def tDT (K : PySem.W.Frag) (E : XK) (e : DX) (d : DTT) : TT := fun σ H Q => ∃ δ S Z q, At K E e Z H S σ δ ∧ d δ S q ∧ ∀ b H' S', Good K Z H' S' → Ext (out H S Z) (out H' S' Z) → q b S' → Q b H'
def tDA (K : PySem.W.Frag) (E : XK) (e : DX) (d : DTA) : TA := fun σ H Q => ∃ δ S Z q, At K E e Z H S σ δ ∧ d δ S q ∧ ∀ vs ds H' S', Good K Z H' S' → Ext (out H S Z) (out H' S' Z) → Reps K (out H' S' Z) ds vs → q ds S' → Q vs H'
/-- the ends -/
structure EnL (K : PySem.W.Frag) (Z G : Hp) (D : Ends) (DD : DEnds) : Prop where
  nx : ∀ σ δ H S, Good K Z H S → Ext G (out H S Z) → Slots K (out H S Z) σ δ → DD.nx δ S → D.nx σ H
  rt : ∀ v x H S, Good K Z H S → Ext G (out H S Z) → Rep K (out H S Z) x v → DD.rt x S → D.rt v H
  bk : ∀ σ δ H S, Good K Z H S → Ext G (out H S Z) → Slots K (out H S Z) σ δ → DD.bk δ S → D.bk σ H
  ct : ∀ σ δ H S, Good K Z H S → Ext G (out H S Z) → Slots K (out H S Z) σ δ → DD.ct δ S → D.ct σ H
theorem EnL.ext {K : PySem.W.Frag} {Z G G' : Hp} {D : Ends} {DD : DEnds} (h : EnL K Z G D DD) (x : Ext G G') : EnL K Z G' D DD :=
  ⟨fun σ δ H S g y => h.nx σ δ H S g (x.trans y), fun v d H S g y => h.rt v d H S g (x.trans y), fun σ δ H S g y => h.bk σ δ H S g (x.trans y), fun σ δ H S g y => h.ct σ δ H S g (x.trans y)⟩
def tDS (K : PySem.W.Frag) (E : XK) (e : DX) (d : DTS) : TS := fun D σ H => ∃ δ S Z DD, At K E e Z H S σ δ ∧ d DD δ S ∧ EnL K Z (out H S Z) D DD
section
variable {K : PySem.W.Frag} {E : XK} {e : DX} {Z H H' : Hp} {S S' : Store} {σ : L2.St} {δ : DS} {q : DK} {Q : VK}
theorem At.to (a : At K E e Z H S σ δ) (g : Good K Z H' S') (x : Ext (out H S Z) (out H' S' Z)) : At K E e Z H' S' σ δ := ⟨g, a.sl.ext x, a.lk.ext x⟩
theorem Ty.ext (h : Ty K Z H S q Q) (x : Ext (out H S Z) (out H' S' Z)) : Ty K Z H' S' q Q := fun v d H2 S2 g y => h v d H2 S2 g (x.trans y)
end
section
variable {X : Cx} {ex : Expr} {t t' : TE}
theorem PE.imp (h : PE X ex t) (i : ∀ σ H Q, t' σ H Q → t σ H Q) : PE X ex t' := ⟨fun pins s σ H Q I q => h.run pins s σ H Q I (i _ _ _ q)⟩
theorem PT.imp {t t' : TT} (h : PT X ex t) (i : ∀ σ H Q, t' σ H Q → t σ H Q) : PT X ex t' := ⟨fun pins s σ H Q I q => h.run pins s σ H Q I (i _ _ _ q)⟩
theorem PW.imp {t t' : TT} (h : PW X ex t) (i : ∀ σ H Q, t' σ H Q → t σ H Q) : PW X ex t' := ⟨fun wh pins s σ H Q I q => h.run wh pins s σ H Q I (i _ _ _ q)⟩
theorem PA.imp {es : List Expr} {t t' : TA} (h : PA X es t) (i : ∀ σ H Q, t' σ H Q → t σ H Q) : PA X es t' := ⟨fun po pins s σ H Q I q => h.run po pins s σ H Q I (i _ _ _ q)⟩
theorem PS.imp {st : Stmt} {t t' : TS} (h : PS X st t) (i : ∀ D σ H, t' D σ H → t D σ H) : PS X st t' := ⟨fun pins s σ H D I q => h.run pins s σ H D I (i _ _ _ q)⟩
theorem PSs.imp {st : List Stmt} {t t' : TS} (h : PSs X st t) (i : ∀ D σ H, t' D σ H → t D σ H) : PSs X st t' := ⟨fun pins s σ H D I q => h.run pins s σ H D I (i _ _ _ q)⟩
end
end Dn

namespace Dn
open PySem PySem.Spec PyProof.Rows L2 Pr
/-! ## operations by values -/
abbrev D2 := Dt → Dt → Store → DK → Prop
def rD (K : PySem.W.Frag) (dr : D2) : R2 := fun x y H Q => ∃ dx dy S Z q, Good K Z H S ∧ Rep K (out H S Z) dx x ∧ Rep K (out H S Z) dy y ∧ dr dx dy S q ∧ Ty K Z H S q Q
@[reducible] def dOp (dr : D2) (a b : DTE) : DTE := fun δ S q => a δ S fun x S1 => b δ S1 fun y S2 => dr x y S2 q
@[reducible] def dVar (i : Nat) : DTE := fun δ S q => match look δ i with
  | some d => q d S
  | none => False
@[reducible] def dC (d : Dt) : DTE := fun _ S q => q d S
section
variable {K : PySem.W.Frag} {Z H : Hp} {S : Store} {q : DK} {Q : VK} {v x y : V} {d dx dy : Dt} {E : XK} {e : DX} {σ : L2.St} {δ : DS}
/-- the same heap, the same store -/
theorem Ty.here (k : Ty K Z H S q Q) (g : Good K Z H S) (h : q d S) (r : Rep K (out H S Z) d v) : Q v H := k v d H S g Ext.refl r h
/-- a new thing that stands still -/
theorem Ty.new (k : Ty K Z H S q Q) (g : Good K Z H S) {p : Addr} {o : HO} (np : H p = none) (h : q d S) (r : Rep K (out (upd H p o) S Z) d (.ref p)) : Q (.ref p) (upd H p o) := k _ d _ S (g.new np) (ext_new g np) r h
/-- a new cell -/
theorem Ty.own (k : Ty K Z H S q Q) (g : Good K Z H S) {p : Addr} {o : HO} {c : Cell} (np : H p = none) (h : q (.ref p) (sput S p c)) (r : CRep K (out H S Z) c o) : Q (.ref p) (upd H p o) :=
  k _ (.ref p) _ _ (g.own np r) (by rw [out_own g np]; exact Ext.refl) rfl h
theorem tD_op {dr : D2} {da db : DTE} (h : tD K E e (dOp dr da db) σ H Q) : tOp (rD K dr) (tD K E e da) (tD K E e db) σ H Q := by
  obtain ⟨δ, S, Z, q, t, h, k⟩ := h
  exact ⟨δ, S, Z, _, t, h, fun v x H1 S1 g1 x1 r1 h1 => ⟨δ, S1, Z, _, t.to g1 x1, h1, fun w y H2 S2 g2 x2 r2 h2 => ⟨x, y, S2, Z, q, g2, Rep.ext x2 _ _ r1, r2, h2, k.ext (x1.trans x2)⟩⟩⟩
end
section
variable {X : Cx} {K : PySem.W.Frag} {E : XK} {e : DX} {pos pos' apos : Pos} {a b c ex : Expr} {da db dc : DTE}
theorem de_op {op : Operator} {dr : D2} (ho : OpR X (binaryOp op) (rD K dr)) (ha : PE X a (tD K E e da)) (hb : PE X b (tD K E e db)) : PE X (.BinOp a op b pos) (tD K E e (dOp dr da db)) :=
  PE.imp (pe_op ho ha hb) fun _ _ _ h => tD_op h
theorem de_cmp {op : CmpOp} {dr : D2} (ho : OpR X (compareOp op) (rD K dr)) (ha : PE X a (tD K E e da)) (hb : PE X b (tD K E e db)) (hm : behindInMarks op b = false := by rfl) : PE X (.Compare a [op] [b] pos) (tD K E e (dOp dr da db)) :=
  PE.imp (pe_cmpR ho ha hb hm) fun _ _ _ h => tD_op h
theorem dv {i : Nat} {x : Str} (h : PE X (.Name x pos) (tVar i)) : PE X (.Name x pos) (tD K E e (dVar i)) := PE.imp h fun σ H Q h => by
  obtain ⟨δ, S, Z, q, t, h, k⟩ := h
  cases hl : look δ i with
  | none => simp only [dVar, hl] at h
  | some d =>
    simp only [dVar, hl] at h
    obtain ⟨v, h1, h2⟩ := t.sl.look hl
    exact ⟨v, h1, k.here t.good h h2⟩
theorem de_c {v : V} {d : Dt} (h : PE X ex (tC v)) (r : ∀ G, Rep K G d v) : PE X ex (tD K E e (dC d)) := PE.imp h fun σ H Q h => by
  obtain ⟨δ, S, Z, q, t, h, k⟩ := h
  exact k.here t.good h (r _)
theorem de_int {i j} : PE X (.Constant (.int i) j pos) (tD K E e (dC (.int i))) := de_c pe_int fun _ => rfl
theorem de_bl {b j} : PE X (.Constant (.bool b) j pos) (tD K E e (dC (.bl b))) := de_c pe_bl fun _ => rfl
theorem de_non {j} : PE X (.Constant .none j pos) (tD K E e (dC .non)) := de_c pe_non fun _ => rfl
theorem de_str {x j} (h : SOk x := by exact ⟨by decide +kernel, by decide +kernel⟩) : PE X (.Constant (.str x) j pos) (tD K E e (dC (.str x))) := de_c pe_str fun _ => ⟨rfl, h⟩
/-- a module's constant -/
theorem de_gcI {x : Str} {i : Int} (hg : Gl X x) (hm : ∃ u, X.mg x = some u ∧ RelV (.int i) u) (hd : (x == ("__debug__" : Str)) = false := by decide) : PE X (.Name x pos) (tD K E e (dC (.int i))) := de_c (pe_gcI hg hm hd) fun _ => rfl
theorem de_gcS {x z : Str} (hg : Gl X x) (hm : ∃ u, X.mg x = some u ∧ RelV (.str z) u) (h : SOk z := by exact ⟨by decide +kernel, by decide +kernel⟩) (hd : (x == ("__debug__" : Str)) = false := by decide) : PE X (.Name x pos) (tD K E e (dC (.str z))) := de_c (pe_gcI hg hm hd) fun _ => ⟨rfl, h⟩
theorem de_gcT {x : Str} {a : Addr} {d : Dt} (hg : Gl X x) (hm : X.mg x = some (.ref a)) (h : ∀ G, Rep K G d (.ref a)) (hd : (x == ("__debug__" : Str)) = false := by decide) : PE X (.Name x pos) (tD K E e (dC d)) := de_c (pe_glob (v := .ref a) hg hm rfl hd) h
end
/-! ## seeing what stands in a list, a dict, a row -/
@[reducible] def seeL (x : Dt) (S : Store) (k : List Dt → Prop) : Prop := match x with
  | .lst l => k l
  | .ref a => ∃ l, S a = some (.lst l) ∧ k l
  | _ => False
@[reducible] def seeQ (x : Dt) (S : Store) (k : List Dt → Prop) : Prop := match x with
  | .lst l => k l
  | .tup l => k l
  | .ptp l => k l
  | .ref a => ∃ l, S a = some (.lst l) ∧ k l
  | _ => False
@[reducible] def seeD (x : Dt) (S : Store) (k : List (Key × Dt) → Prop) : Prop := match x with
  | .dic l => k l
  | .ref a => ∃ l, (S a = some (.dic l) ∨ ∃ o, S a = some (.lck o l)) ∧ k l
  | _ => False
section
variable {K : PySem.W.Frag} {Z H : Hp} {S : Store} {v : V} {d : Dt}
theorem see_lst (g : Good K Z H S) (r : Rep K (out H S Z) d v) {k : List Dt → Prop} (h : seeL d S k) : ∃ a vs l, v = .ref a ∧ H a = some (.lst vs) ∧ Reps K (out H S Z) l vs ∧ k l := by
  cases d with
  | lst l => obtain ⟨a, vs, h1, h2, h3⟩ := r; exact ⟨a, vs, l, h1, out_le h2, h3, h⟩
  | ref a =>
    obtain ⟨l, h1, h2⟩ := h
    obtain ⟨o, h3, vs, rfl, h4⟩ := g.c a _ h1
    exact ⟨a, vs, l, r, h3, h4, h2⟩
  | _ => exact h.elim
theorem SqT.out {a : Addr} {vs : List V} (h : SqT K (out H S Z) a vs) : SqT K H a vs := by
  rcases h with (h | ⟨o, h⟩) | h
  · exact .inl (.inl (out_le h))
  · exact .inl (.inr ⟨o, out_le h⟩)
  · exact .inr h
theorem Rd.out {a : Addr} {u : HO} (h : Rd (out H S Z) a u) : Rd H a u := by
  rcases h with h | ⟨o, h⟩
  · exact .inl (out_le h)
  · exact .inr ⟨o, out_le h⟩
theorem ptp_sq {G : Hp} {K : PySem.W.Frag} {a : Addr} {vs : List V} (h : ∃ o : Obj, o.dict = none ∧ G a = some (.frz o (.tup vs))) : SqT K G a vs := by
  obtain ⟨o, _, h⟩ := h
  exact .inl (.inr ⟨o, h⟩)
theorem see_seq (g : Good K Z H S) (r : Rep K (out H S Z) d v) {k : List Dt → Prop} (h : seeQ d S k) : ∃ a vs l, v = .ref a ∧ (SqL K H a vs ∨ SqT K H a vs) ∧ Reps K (out H S Z) l vs ∧ k l := by
  cases d with
  | lst l => obtain ⟨a, vs, h1, h2, h3⟩ := r; exact ⟨a, vs, l, h1, .inl (SqL.of (out_le h2)), h3, h⟩
  | tup l => obtain ⟨a, vs, h1, h2, h3⟩ := r; exact ⟨a, vs, l, h1, .inr (SqT.out h2), h3, h⟩
  | ptp l => obtain ⟨a, vs, h1, h2, h3⟩ := r; exact ⟨a, vs, l, h1, .inr (SqT.out (ptp_sq h2)), h3, h⟩
  | ref a =>
    obtain ⟨l, h1, h2⟩ := h
    obtain ⟨o, h3, vs, rfl, h4⟩ := g.c a _ h1
    exact ⟨a, vs, l, r, .inl (SqL.of h3), h4, h2⟩
  | _ => exact h.elim
theorem see_dic (g : Good K Z H S) (r : Rep K (out H S Z) d v) {k : List (Key × Dt) → Prop} (h : seeD d S k) : ∃ a vs l, v = .ref a ∧ Rd H a (.dK vs) ∧ Repk K (out H S Z) l vs ∧ k l := by
  cases d with
  | dic l => obtain ⟨a, vs, h1, h2, h3⟩ := r; exact ⟨a, vs, l, h1, Rd.out h2, h3, h⟩
  | ref a =>
    obtain ⟨l, h1, h2⟩ := h
    rcases h1 with h1 | ⟨o', h1⟩
    · obtain ⟨o, h3, vs, rfl, h4⟩ := g.c a _ h1
      exact ⟨a, vs, l, r, .inl h3, h4, h2⟩
    · obtain ⟨o, h3, rfl, ob, vs, rfl, h4⟩ := g.c a _ h1
      exact ⟨a, vs, l, r, .inr ⟨ob, h3⟩, h4, h2⟩
  | _ => exact h.elim
end
/-! ## texts -/
theorem SOk.empty : SOk "" := ⟨by decide +kernel, by decide +kernel⟩
theorem sok_all {z : Str} : PySem.PyData.strOk z = true ↔ ∀ c ∈ z.cps.toList, c < 0x110000 := by
  show (z.cps.all fun c => decide (c < 0x110000)) = true ↔ _
  rw [Array.all_eq_true_iff_forall_mem]
  constructor
  · intro h c hc; exact of_decide_eq_true (h c (Array.mem_toList_iff.mp hc))
  · intro h c hc; exact decide_eq_true (h c (Array.mem_toList_iff.mpr hc))
theorem app_cps (a b : Str) : (a ++ b).cps.toList = a.cps.toList ++ b.cps.toList := by
  show (a.cps ++ b.cps).toList = _
  rw [Array.toList_append]
theorem len_cps (a : Str) : a.length = a.cps.toList.length := by show a.cps.size = _; rw [Array.length_toList]
theorem app_len (a b : Str) : (a ++ b).length = a.length + b.length := by rw [len_cps, app_cps, List.length_append, ← len_cps, ← len_cps]
theorem SOk.app {a b : Str} (ha : SOk a) (hb : SOk b) (h : a.length + b.length ≤ sizeLine) : SOk (a ++ b) := ⟨by rw [app_len]; exact h, by
  rw [sok_all, app_cps]
  intro c hc
  rcases List.mem_append.mp hc with m | m
  · exact sok_all.mp ha.ok c m
  · exact sok_all.mp hb.ok c m⟩
theorem SOk.sub {a b : Str} (ha : SOk a) (h : ∀ c ∈ b.cps.toList, c ∈ a.cps.toList) (hl : b.length ≤ a.length) : SOk b := ⟨Nat.le_trans hl ha.len, sok_all.mpr fun c hc => sok_all.mp ha.ok c (h c hc)⟩
theorem SOk.sign {a : Str} (ha : SOk a) {c : Nat} (h : c ∈ a.cps.toList) : SOk ⟨#[c]⟩ := ⟨Nat.le_of_ble_eq_true rfl, sok_all.mpr fun d hd => by
  simp at hd
  rw [hd]
  exact sok_all.mp ha.ok c h⟩
/-! ## data -/
def strLt (a b : Str) : Bool := decide (a.cps.toList < b.cps.toList)
mutual
def py : Dt → PyData
  | .non => .none
  | .bl b => .bool b
  | .int i => .int i
  | .str z => .str z
  | .ref _ => .none
  | .ty _ => .none
  | .tup l => .tuple (pys l)
  | .ptp l => .tuple (pys l)
  | .lst l => .list (pys l)
  | .dic _ => .none
  | .obj _ _ _ => .none
  | .scr _ => .none
  | .lam _ _ => .none
  | .gco _ _ => .none
def pys : List Dt → List PyData
  | [] => []
  | d :: l => py d :: pys l
end
mutual
def isDat : Dt → Bool
  | .non | .bl _ | .int _ | .str _ => true
  | .ref _ | .ty _ | .dic _ | .obj _ _ _ | .scr _ | .lam _ _ | .gco _ _ => false
  | .tup l => areDat l
  | .ptp l => areDat l
  | .lst l => areDat l
def areDat : List Dt → Bool
  | [] => true
  | d :: l => isDat d && areDat l
end
def deqv (x y : Dt) : Bool := PyData.eqv (py x) (py y)
theorem pys_map : ∀ l : List Dt, pys l = l.map py
  | [] => rfl
  | d :: l => by show py d :: pys l = _; rw [pys_map l]; rfl
theorem areDat_all : ∀ l : List Dt, areDat l = l.all isDat
  | [] => rfl
  | d :: l => by show (isDat d && areDat l) = _; rw [areDat_all l]; rfl
section
variable {K : PySem.W.Frag} {Z H : Hp} {S : Store}
mutual
theorem Rep.dp : ∀ (d : Dt) (v : V), isDat d = true → Rep K (out H S Z) d v → Dp K H v (py d)
  | .non, v, _, h => by rw [show v = .non from h]; exact .non
  | .bl b, v, _, h => by rw [show v = .bl b from h]; exact .bl b
  | .int i, v, _, h => by rw [show v = .int i from h]; exact .int i
  | .str z, v, _, h => by rw [h.1]; exact .str z
  | .ref _, _, x, _ | .ty _, _, x, _ | .dic _, _, x, _ | .obj _ _ _, _, x, _ | .scr _, _, x, _ | .lam _ _, _, x, _ | .gco _ _, _, x, _ => by simp [isDat] at x
  | .tup l, v, x, ⟨a, vs, e, h2, h3⟩ => by rw [e]; exact .tup (SqT.out h2) (Reps.dp l vs x h3)
  | .ptp l, v, x, ⟨a, vs, e, h2, h3⟩ => by rw [e]; exact .tup (SqT.out (ptp_sq h2)) (Reps.dp l vs x h3)
  | .lst l, v, x, ⟨a, vs, e, h2, h3⟩ => by rw [e]; exact .lst (SqL.of (out_le h2)) (Reps.dp l vs x h3)
theorem Reps.dp : ∀ (l : List Dt) (vs : List V), areDat l = true → Reps K (out H S Z) l vs → DpAll K H vs (pys l)
  | [], vs, _, h => by rw [show vs = [] from h]; exact .nil
  | d :: l, vs, x, ⟨v, r, e, h1, h2⟩ => by
    have x : (isDat d && areDat l) = true := x
    rw [Bool.and_eq_true] at x
    rw [e]
    exact .cons (Rep.dp d v x.1 h1) (Reps.dp l r x.2 h2)
end
mutual
theorem Rep.lay {G : Hp} : ∀ (d : Dt) (v : V), Rep K G d v → (py d).canLay0 = true
  | .non, _, _ | .bl _, _, _ | .int _, _, _ | .ref _, _, _ | .ty _, _, _ | .dic _, _, _ | .obj _ _ _, _, _ | .scr _, _, _ | .lam _ _, _, _ | .gco _ _, _, _ => rfl
  | .str z, _, h => h.2.ok
  | .tup l, v, ⟨a, vs, e, h2, h3⟩ => Reps.lay l vs h3
  | .ptp l, v, ⟨a, vs, e, h2, h3⟩ => Reps.lay l vs h3
  | .lst l, v, ⟨a, vs, e, h2, h3⟩ => Reps.lay l vs h3
theorem Reps.lay {G : Hp} : ∀ (l : List Dt) (vs : List V), Reps K G l vs → PyData.canLayAll0 (pys l) = true
  | [], _, _ => rfl
  | d :: l, vs, ⟨v, r, e, h1, h2⟩ => by
    show (PyData.canLay0 (py d) && PyData.canLayAll0 (pys l)) = true
    rw [Rep.lay d v h1, Reps.lay l r h2]
    rfl
end
theorem Rep.shaped {G : Hp} {d : Dt} {v : V} (h : Rep K G d v) (hd : (py d).depth ≤ 64) : SeqAt.shaped (py d) = true := by
  show ((py d).canLay0 && decide ((py d).depth ≤ 64)) = true
  rw [Rep.lay d v h, decide_eq_true hd]
  rfl
end
/-! ## the operations -/
@[reducible] def rAdd : D2 := fun x y S q => match x, y with
  | .int i, .int j => q (.int (i + j)) S
  | .str a, .str b => a.length + b.length ≤ sizeLine ∧ q (.str (a ++ b)) S
  | .tup a, .tup b => a.length + b.length ≤ sizeLine ∧ q (.tup (a ++ b)) S
  | x, y => seeL x S fun a => seeL y S fun b => a.length + b.length ≤ sizeLine ∧ q (.lst (a ++ b)) S
@[reducible] def rSub : D2 := fun x y S q => match x, y with
  | .int i, .int j => q (.int (i - j)) S
  | _, _ => False
/-- a text many times -/
def repS (z : Str) (n : Nat) : Str := ⟨((List.replicate n z.cps.toList).flatten).toArray⟩
@[reducible] def rMul : D2 := fun x y S q => match x, y with
  | .int i, .int j => CMul i j ∧ q (.int (i * j)) S
  | .str z, .int n => (0 ≤ n ∧ n < 2 ^ 24 ∧ z.length * n.toNat ≤ sizeLine) ∧ q (.str (repS z n.toNat)) S
  | x, .int n => seeL x S fun l => (-(2 ^ 63) ≤ n ∧ n < 2 ^ 63 ∧ l.length * n.toNat ≤ sizeLine) ∧ q (.lst (List.replicate n.toNat l).flatten) S
  | _, _ => False
@[reducible] def rFdiv : D2 := fun x y S q => match x, y with
  | .int i, .int j => (0 < j ∧ j < 1073741824) ∧ q (.int (i / j)) S
  | _, _ => False
@[reducible] def rMod : D2 := fun x y S q => match x, y with
  | .int i, .int j => 0 < j ∧ q (.int (i % j)) S
  | _, _ => False
@[reducible] def rPow : D2 := fun x y S q => match x, y with
  | .int i, .int j => (0 ≤ j ∧ j ≤ 1000000 ∧ i.natAbs < 2 ^ 64) ∧ q (.int (i ^ j.toNat)) S
  | _, _ => False
@[reducible] def rLt : D2 := fun x y S q => match x, y with
  | .int i, .int j => q (.bl (decide (i < j))) S
  | .str a, .str b => q (.bl (strLt a b)) S
  | _, _ => False
@[reducible] def rLe : D2 := fun x y S q => match x, y with
  | .int i, .int j => q (.bl (decide (i ≤ j))) S
  | .str a, .str b => q (.bl (!strLt b a)) S
  | _, _ => False
@[reducible] def rGt : D2 := fun x y S q => match x, y with
  | .int i, .int j => q (.bl (decide (j < i))) S
  | .str a, .str b => q (.bl (strLt b a)) S
  | _, _ => False
@[reducible] def rGe : D2 := fun x y S q => match x, y with
  | .int i, .int j => q (.bl (decide (j ≤ i))) S
  | .str a, .str b => q (.bl (!strLt a b)) S
  | _, _ => False
@[reducible] def isNon : Dt → Bool
  | .non => true
  | _ => false
@[reducible] def notNon : Dt → Bool
  | .non => false
  | _ => true
@[reducible] def rIs : D2 := fun x y S q => match x, y with
  | x, .non => q (.bl (isNon x)) S
  | .bl a, .bl b => q (.bl (decide (a = b))) S
  | _, _ => False
@[reducible] def rIsNot : D2 := fun x y S q => match x, y with
  | x, .non => q (.bl (notNon x)) S
  | .bl a, .bl b => q (.bl (!decide (a = b))) S
  | _, _ => False
/-- equal data -/
def dEq : D2 := fun x y S q => (isDat x = true ∧ isDat y = true ∧ (py x).depth ≤ 64 ∧ (py y).depth ≤ 64) ∧ q (.bl (deqv x y)) S
def dNe : D2 := fun x y S q => (isDat x = true ∧ isDat y = true ∧ (py x).depth ≤ 64 ∧ (py y).depth ≤ 64) ∧ q (.bl (!deqv x y)) S
/-- among the items of a list -/
def memD (x : Dt) (l : List Dt) : Bool := l.any fun z => deqv z x
def hasS (z y : Str) : Bool := !(Builtin.Str.occurrences z y 0 z.length 1).isEmpty
def dIn (neg : Bool) : D2 := fun x y S q => match y with
  | .str z => ∃ t, x = .str t ∧ q (.bl (if neg then !hasS z t else hasS z t)) S
  | .tup l => (isDat x = true ∧ (py x).depth = 0 ∧ l.all (fun z => isDat z && decide ((py z).depth = 0)) = true) ∧ q (.bl (if neg then !memD x l else memD x l)) S
  | y => seeL y S fun l => (isDat x = true ∧ areDat l = true ∧ (py x).depth ≤ 64 ∧ (py (.lst l)).depth ≤ 64) ∧ q (.bl (if neg then !memD x l else memD x l)) S
section
variable {X : Cx} {K : PySem.W.Frag}
theorem od_add (hK : X.K = K) : OpR X (binaryOp .Add) (rD K rAdd) := fun pins s σ H x y v u Q I rv ru ⟨dx, dy, S, Z, q, g, rx, ry, h, k⟩ => by
  have lists : (seeL dx S fun a => seeL dy S fun b => a.length + b.length ≤ sizeLine ∧ q (.lst (a ++ b)) S) → wpAny (model X.prog X.w) X.A (binaryOp .Add v u) (EP X pins σ Q) X.xe s := fun h => by
    obtain ⟨a, xs, l, rfl, ha, ra, h⟩ := see_lst g rx h
    obtain ⟨b, ys, m, rfl, hb, rb, hl, h⟩ := see_lst g ry h
    exact op_cat pins s σ H _ _ v u Q I rv ru ⟨a, b, xs, ys, rfl, rfl, ha, hb, by rw [← ra.len, ← rb.len]; exact hl, fun p np => k.new g np h ⟨p, _, rfl, out_new g np, Reps.pair.mpr (Paired.app (Reps.pair.mp (Reps.ext (ext_new g np) _ _ ra)) (Reps.pair.mp (Reps.ext (ext_new g np) _ _ rb)))⟩⟩
  cases dx with
  | int i =>
    cases dy with
    | int j => exact op_add pins s σ H x y v u Q I rv ru ⟨i, j, rx, ry, k.here g h rfl⟩
    | _ => exact lists h
  | str a =>
    cases dy with
    | str b => exact op_add_str pins s σ H x y v u Q I rv ru ⟨a, b, rx.1, ry.1, h.1, k.here g h.2 ⟨rfl, rx.2.app ry.2 h.1⟩⟩
    | _ => exact lists h
  | tup l =>
    cases dy with
    | tup m =>
      obtain ⟨a, xs, rfl, ha, ra⟩ := rx
      obtain ⟨b, ys, rfl, hb, rb⟩ := ry
      subst hK
      refine op_catA pins s σ H _ _ v u Q I rv ru ⟨a, b, xs, ys, rfl, rfl, SqT.out ha, SqT.out hb, by rw [← ra.len, ← rb.len]; exact h.1, fun ex => ?_, fun nx ey => ?_, fun nx ny p np => ?_⟩
      · have : l = [] := by subst ex; exact List.eq_nil_of_length_eq_zero ra.len
        subst this
        exact k.here g h.2 ⟨b, ys, rfl, hb, by simpa using rb⟩
      · have : m = [] := by subst ey; exact List.eq_nil_of_length_eq_zero rb.len
        subst this
        exact k.here g h.2 ⟨a, xs, rfl, ha, by simpa using ra⟩
      · exact k.new g np h.2 ⟨p, _, rfl, SqT.of (out_new g np), Reps.pair.mpr (Paired.app (Reps.pair.mp (Reps.ext (ext_new g np) _ _ ra)) (Reps.pair.mp (Reps.ext (ext_new g np) _ _ rb)))⟩
    | _ => exact lists h
  | _ => exact lists h
theorem od_sub : OpR X (binaryOp .Sub) (rD K rSub) := fun pins s σ H x y v u Q I rv ru ⟨dx, dy, S, Z, q, g, rx, ry, h, k⟩ => by
  cases dx with
  | int i =>
    cases dy with
    | int j => exact op_sub pins s σ H x y v u Q I rv ru ⟨i, j, rx, ry, k.here g h rfl⟩
    | _ => exact h.elim
  | _ => exact h.elim
theorem od_fdiv : OpR X (binaryOp .FloorDiv) (rD K rFdiv) := fun pins s σ H x y v u Q I rv ru ⟨dx, dy, S, Z, q, g, rx, ry, h, k⟩ => by
  cases dx with
  | int i =>
    cases dy with
    | int j => exact op_fdiv pins s σ H x y v u Q I rv ru ⟨i, j, rx, ry, h.1, k.here g h.2 rfl⟩
    | _ => exact h.elim
  | _ => exact h.elim
theorem od_mod : OpR X (binaryOp .Mod) (rD K rMod) := fun pins s σ H x y v u Q I rv ru ⟨dx, dy, S, Z, q, g, rx, ry, h, k⟩ => by
  cases dx with
  | int i =>
    cases dy with
    | int j => exact op_mod pins s σ H x y v u Q I rv ru ⟨i, j, rx, ry, h.1, k.here g h.2 rfl⟩
    | _ => exact h.elim
  | _ => exact h.elim
theorem od_pow : OpR X (binaryOp .Pow) (rD K rPow) := fun pins s σ H x y v u Q I rv ru ⟨dx, dy, S, Z, q, g, rx, ry, h, k⟩ => by
  cases dx with
  | int i =>
    cases dy with
    | int j => exact op_pow pins s σ H x y v u Q I rv ru ⟨i, j, rx, ry, h.1, k.here g h.2 rfl⟩
    | _ => exact h.elim
  | _ => exact h.elim
theorem od_lt : OpR X (compareOp .Lt) (rD K rLt) := fun pins s σ H x y v u Q I rv ru ⟨dx, dy, S, Z, q, g, rx, ry, h, k⟩ => by
  cases dx with
  | int i =>
    cases dy with
    | int j => exact op_lt pins s σ H x y v u Q I rv ru ⟨i, j, rx, ry, k.here g h rfl⟩
    | _ => exact h.elim
  | str a =>
    cases dy with
    | str b => exact op_lt_str pins s σ H x y v u Q I rv ru ⟨a, b, rx.1, ry.1, k.here g h rfl⟩
    | _ => exact h.elim
  | _ => exact h.elim
theorem od_le : OpR X (compareOp .LtE) (rD K rLe) := fun pins s σ H x y v u Q I rv ru ⟨dx, dy, S, Z, q, g, rx, ry, h, k⟩ => by
  cases dx with
  | int i =>
    cases dy with
    | int j => exact op_le pins s σ H x y v u Q I rv ru ⟨i, j, rx, ry, k.here g h rfl⟩
    | _ => exact h.elim
  | str a =>
    cases dy with
    | str b => exact op_le_str pins s σ H x y v u Q I rv ru ⟨a, b, rx.1, ry.1, k.here g h rfl⟩
    | _ => exact h.elim
  | _ => exact h.elim
theorem od_gt : OpR X (compareOp .Gt) (rD K rGt) := fun pins s σ H x y v u Q I rv ru ⟨dx, dy, S, Z, q, g, rx, ry, h, k⟩ => by
  cases dx with
  | int i =>
    cases dy with
    | int j => exact op_gt pins s σ H x y v u Q I rv ru ⟨i, j, rx, ry, k.here g h rfl⟩
    | _ => exact h.elim
  | str a =>
    cases dy with
    | str b => exact op_gt_str pins s σ H x y v u Q I rv ru ⟨a, b, rx.1, ry.1, k.here g h rfl⟩
    | _ => exact h.elim
  | _ => exact h.elim
theorem od_ge : OpR X (compareOp .GtE) (rD K rGe) := fun pins s σ H x y v u Q I rv ru ⟨dx, dy, S, Z, q, g, rx, ry, h, k⟩ => by
  cases dx with
  | int i =>
    cases dy with
    | int j => exact op_ge pins s σ H x y v u Q I rv ru ⟨i, j, rx, ry, k.here g h rfl⟩
    | _ => exact h.elim
  | str a =>
    cases dy with
    | str b => exact op_ge_str pins s σ H x y v u Q I rv ru ⟨a, b, rx.1, ry.1, k.here g h rfl⟩
    | _ => exact h.elim
  | _ => exact h.elim
theorem isNon_rep {G : Hp} {d : Dt} {v : V} (r : Rep K G d v) : decide (v = .non) = isNon d := by
  cases d with
  | non => rw [show v = .non from r]; rfl
  | str z => rw [r.1]; rfl
  | tup l => obtain ⟨a, vs, rfl, _⟩ := r; rfl
  | ptp l => obtain ⟨a, vs, rfl, _⟩ := r; rfl
  | lst l => obtain ⟨a, vs, rfl, _⟩ := r; rfl
  | dic l => obtain ⟨a, vs, rfl, _⟩ := r; rfl
  | obj C nm l => obtain ⟨a, dx, vs, rfl, _⟩ := r; rfl
  | scr ns => obtain ⟨a, rfl, _⟩ := r; rfl
  | lam F b => obtain ⟨a, rfl, _⟩ := r; rfl
  | gco c P => obtain ⟨rfl, _⟩ := r; rfl
  | bl b => rw [show v = _ from r]; rfl
  | int i => rw [show v = _ from r]; rfl
  | ref a => rw [show v = _ from r]; rfl
  | ty a => rw [show v = _ from r]; rfl
theorem od_is : OpR X (compareOp .Is) (rD K rIs) := fun pins s σ H x y v u Q I rv ru ⟨dx, dy, S, Z, q, g, rx, ry, h, k⟩ => by
  cases dy with
  | non =>
    have h : q (.bl (isNon dx)) S := by cases dx <;> exact h
    exact op_isN pins s σ H x y v u Q I rv ru ⟨ry, by rw [isNon_rep rx]; exact k.here g h rfl⟩
  | bl b =>
    cases dx with
    | bl a => exact op_isBl pins s σ H x y v u Q I rv ru ⟨a, b, rx, ry, k.here g h rfl⟩
    | _ => exact h.elim
  | _ => cases dx <;> exact h.elim
theorem od_isNot : OpR X (compareOp .IsNot) (rD K rIsNot) := fun pins s σ H x y v u Q I rv ru ⟨dx, dy, S, Z, q, g, rx, ry, h, k⟩ => by
  cases dy with
  | non =>
    have h : q (.bl (!isNon dx)) S := by cases dx <;> exact h
    exact op_notN pins s σ H x y v u Q I rv ru ⟨ry, by rw [isNon_rep rx]; exact k.here g h rfl⟩
  | bl b =>
    cases dx with
    | bl a => exact op_notBl pins s σ H x y v u Q I rv ru ⟨a, b, rx, ry, k.here g h rfl⟩
    | _ => exact h.elim
  | _ => cases dx <;> exact h.elim
theorem od_eq (hK : X.K = K) (hu : X.A.units + 64 < cLine) : OpR X (compareOp .Eq) (rD K dEq) := fun pins s σ H x y v u Q I rv ru ⟨dx, dy, S, Z, q, g, rx, ry, ⟨⟨h1, h2, h3, h4⟩, h⟩, k⟩ => by
  subst hK
  exact op_eqD hu pins s σ H x y v u Q I rv ru ⟨py dx, py dy, Rep.dp _ _ h1 rx, Rep.dp _ _ h2 ry, Rep.shaped rx h3, Rep.shaped ry h4, k.here g h rfl⟩
theorem od_ne (hK : X.K = K) (hu : X.A.units + 64 < cLine) : OpR X (compareOp .NotEq) (rD K dNe) := fun pins s σ H x y v u Q I rv ru ⟨dx, dy, S, Z, q, g, rx, ry, ⟨⟨h1, h2, h3, h4⟩, h⟩, k⟩ => by
  subst hK
  exact op_neD hu pins s σ H x y v u Q I rv ru ⟨py dx, py dy, Rep.dp _ _ h1 rx, Rep.dp _ _ h2 ry, Rep.shaped rx h3, Rep.shaped ry h4, k.here g h rfl⟩
end
end Dn

namespace Dn
open PySem PySem.Spec PyProof.Rows L2 Pr
@[reducible] def Ift (b : Bool) (A B : Prop) : Prop := match b with
  | true => A
  | false => B
theorem ift {p A B : Prop} [Decidable p] (h1 : p → A) (h2 : ¬ p → B) : Ift (decide p) A B := by
  by_cases h : p
  · rw [decide_eq_true h]; exact h1 h
  · rw [decide_eq_false h]; exact h2 h
theorem iftN {p A B : Prop} [Decidable p] (h1 : ¬ p → A) (h2 : p → B) : Ift (!decide p) A B := by
  by_cases h : p
  · rw [decide_eq_true h]; exact h2 h
  · rw [decide_eq_false h]; exact h1 h
theorem ift_b {b : Bool} {A B : Prop} (h1 : b = true → A) (h2 : b = false → B) : Ift b A B := by
  cases b
  · exact h2 rfl
  · exact h1 rfl
theorem ift_pf {p A B : Prop} [Decidable p] (h : ¬ p) (h1 : B) : Ift (decide p) A B := by rw [decide_eq_false h]; exact h1
theorem iftN_t {p A B : Prop} [Decidable p] (h : ¬ p) (h1 : A) : Ift (!decide p) A B := by rw [decide_eq_false h]; exact h1
theorem iftN_f {p A B : Prop} [Decidable p] (h : p) (h1 : B) : Ift (!decide p) A B := by rw [decide_eq_true h]; exact h1
/-! ## truth -/
@[reducible] def dTruV (x : Dt) (S : Store) (k : Bool → Prop) : Prop := match x with
  | .non => k false
  | .bl b => k b
  | .int i => k (!decide (i = 0))
  | .str z => k (!decide (z = ""))
  | .tup l => k (!l.isEmpty)
  | .ptp l => k (!l.isEmpty)
  | .lst l => k (!l.isEmpty)
  | .dic l => False
  | .ref a => ∃ c, S a = some c ∧ (match c with
    | .lst l => k (!l.isEmpty)
    | .dic l => k (!l.isEmpty)
    | _ => False)
  | .ty _ => False
  | .obj _ _ _ => False
  | .scr _ => False
  | .lam _ _ => False
  | .gco _ _ => False
theorem str_zero {z : Str} : ((z.length : Int) != 0) = !decide (z = "") := by
  have e : (("" : Str) : Str) = ⟨#[]⟩ := by decide +kernel
  rw [e]
  obtain ⟨c⟩ := z
  by_cases h : c = #[]
  · subst h; rfl
  · have h1 : ¬ ((⟨c⟩ : Str) = ⟨#[]⟩) := fun q => h (by injection q)
    rw [decide_eq_false h1]
    show ((c.size : Int) != 0) = true
    rw [bne_iff_ne]
    intro q
    apply h
    have : c.size = 0 := by omega
    exact Array.eq_empty_of_size_eq_zero this
theorem isEmpty_len {α β : Type} {l : List α} {m : List β} (h : l.length = m.length) : m.isEmpty = l.isEmpty := by
  cases l <;> cases m <;> first | rfl | simp at h
theorem Repk.len {K : PySem.W.Frag} {G : Hp} {l : List (Key × Dt)} {vs : List (Key × V)} (h : Repk K G l vs) : l.length = vs.length := Paired.length (Repk.pair.mp h)
section
variable {K : PySem.W.Frag} {Z H : Hp} {S : Store} {v : V} {d : Dt}
theorem tru_of (g : Good K Z H S) (r : Rep K (out H S Z) d v) {k : Bool → Prop} (h : dTruV d S k) : ∃ b, k b ∧ TruV K v H b := by
  cases d with
  | non => rw [show v = _ from r]; exact ⟨_, h, rfl⟩
  | bl b => rw [show v = _ from r]; exact ⟨_, h, rfl⟩
  | int i => rw [show v = _ from r]; exact ⟨_, h, by
      show _ = (i != 0)
      by_cases z : i = 0 <;> simp [z]⟩
  | str z => rw [r.1]; exact ⟨_, h, r.2.len, str_zero.symm⟩
  | tup l =>
    obtain ⟨a, vs, rfl, h1, h2⟩ := r
    exact ⟨_, h, .inr (.inl ⟨vs, SqT.out h1, by rw [isEmpty_len h2.len]⟩)⟩
  | ptp l =>
    obtain ⟨a, vs, rfl, h1, h2⟩ := r
    exact ⟨_, h, .inr (.inl ⟨vs, SqT.out (ptp_sq h1), by rw [isEmpty_len h2.len]⟩)⟩
  | lst l =>
    obtain ⟨a, vs, rfl, h1, h2⟩ := r
    exact ⟨_, h, .inl ⟨vs, SqL.of (out_le h1), by rw [isEmpty_len h2.len]⟩⟩
  | dic l => exact h.elim
  | ref a =>
    obtain ⟨c, h1, h2⟩ := h
    rw [show v = _ from r]
    obtain ⟨o, h3, h4⟩ := g.c a _ h1
    cases c with
    | lst l => obtain ⟨vs, rfl, h5⟩ := h4; exact ⟨_, h2, .inl ⟨vs, SqL.of h3, by rw [isEmpty_len h5.len]⟩⟩
    | dic l => obtain ⟨vs, rfl, h5⟩ := h4; exact ⟨_, h2, .inr (.inr ⟨vs, h3, by rw [isEmpty_len h5.len]⟩)⟩
    | _ => exact h2.elim
  | ty _ => exact h.elim
  | obj _ _ _ => exact h.elim
  | scr _ => exact h.elim
  | lam _ _ => exact h.elim
  | gco _ _ => exact h.elim
end
@[reducible] def dTru (a : DTE) : DTT := fun δ S q => a δ S fun x S1 => dTruV x S1 fun b => q b S1
@[reducible] def dOr (a b : DTE) : DTE := fun δ S q => a δ S fun x S1 => dTruV x S1 fun k => Ift k (q x S1) (b δ S1 q)
@[reducible] def dTAnd (t u : DTT) : DTT := fun δ S q => t δ S fun c S1 => Ift c (u δ S1 q) (q false S1)
@[reducible] def dTOr (t u : DTT) : DTT := fun δ S q => t δ S fun c S1 => Ift c (q true S1) (u δ S1 q)
@[reducible] def dTNot (t : DTT) : DTT := fun δ S q => t δ S fun c S1 => q (!c) S1
@[reducible] def dIfE (t : DTT) (a b : DTE) : DTE := fun δ S q => t δ S fun c S1 => Ift c (a δ S1 q) (b δ S1 q)
@[reducible] def dChain (r r' : D2) (a b c : DTE) : DTE := fun δ S q => a δ S fun x S1 => b δ S1 fun y S2 => r x y S2 fun z S3 => ∃ k, z = .bl k ∧ Ift k (c δ S3 fun w S4 => r' y w S4 q) (q (.bl false) S3)
@[reducible] def dNeg (a : DTE) : DTE := fun δ S q => a δ S fun x S1 => match x with
  | .int i => q (.int (-i)) S1
  | _ => False
/-- few things -/
@[reducible] def Lim : List Dt → Nat → Prop → Prop
  | [], _, A => A
  | _ :: l, n + 1, A => Lim l n A
  | _ :: _, 0, _ => False
theorem Lim.le : ∀ {l : List Dt} {n : Nat} {A : Prop}, Lim l n A → l.length ≤ n ∧ A
  | [], _, _, h => ⟨Nat.zero_le _, h⟩
  | _ :: l, n + 1, A, h => by
    obtain ⟨h1, h2⟩ := Lim.le (l := l) (n := n) h
    exact ⟨Nat.succ_le_succ h1, h2⟩
  | _ :: _, 0, _, h => h.elim
@[reducible] def dTup (t : DTA) : DTE := fun δ S q => t δ S fun xs S1 => Lim xs 1000 (q (.tup xs) S1)
@[reducible] def dLst (t : DTA) : DTE := fun δ S q => t δ S fun xs S1 => Lim xs 1000 (q (.lst xs) S1)
/-- a list that will change -/
@[reducible] def dLstO (t : DTA) : DTE := fun δ S q => t δ S fun xs S1 => Lim xs 1000 (∀ p, S1 p = none → q (.ref p) (sput S1 p (.lst xs)))
@[reducible] def dNil : DTA := fun _ S q => q [] S
@[reducible] def dCons (a : DTE) (t : DTA) : DTA := fun δ S q => a δ S fun x S1 => t δ S1 fun xs S2 => q (x :: xs) S2
section
variable {X : Cx} {K : PySem.W.Frag} {E : XK} {e : DX} {pos pos' apos : Pos} {a b c ex : Expr} {es rest : List Expr} {da db dc : DTE} {ta tb : DTT} {ts : DTA}
theorem tD_seq {d : DTE} {f : Dt → Store → DK → Prop} {σ : L2.St} {H : Hp} {Q : VK} {R : V → Hp → Prop} (h : tD K E e (fun δ S q => d δ S fun x S1 => f x S1 q) σ H Q)
    (k : ∀ v x δ S Z H1 q, At K E e Z H1 S σ δ → Rep K (out H1 S Z) x v → f x S q → Ty K Z H1 S q Q → R v H1) : tD K E e d σ H R := by
  obtain ⟨δ, S, Z, q, t, h, k'⟩ := h
  exact ⟨δ, S, Z, _, t, h, fun v x H1 S1 g1 x1 r1 h1 => k v x δ S1 Z H1 q (t.to g1 x1) r1 h1 (k'.ext x1)⟩
theorem de_tru (hK : X.K = K) (ha : PE X a (tD K E e da)) (he : ∀ whole, isTrue a X.env whole = (do let v ← whole; standAt a.pos; holding [v] (truthy v)) := by intro _; rfl) : PT X a (tDT K E e (dTru da)) := PT.imp (pt_truthK hK ha he) fun σ H Q h => by
  obtain ⟨δ, S, Z, q, t, h, k⟩ := h
  refine ⟨δ, S, Z, _, t, h, fun v x H1 S1 g1 x1 r1 h1 => ?_⟩
  obtain ⟨b, h2, h3⟩ := tru_of g1 r1 h1
  exact ⟨b, h3, k b H1 S1 g1 x1 h2⟩
theorem de_or (hK : X.K = K) (ha : PE X a (tD K E e da)) (hb : PE X (.BoolOp .Or (b :: rest) pos) (tD K E e db)) : PE X (.BoolOp .Or (a :: b :: rest) pos) (tD K E e (dOr da db)) := PE.imp (pe_orT ha hb) fun σ H Q h => by
  subst hK
  obtain ⟨δ, S, Z, q, t, h, k⟩ := h
  refine ⟨δ, S, Z, _, t, h, fun v x H1 S1 g1 x1 r1 h1 => ?_⟩
  obtain ⟨b, h2, h3⟩ := tru_of g1 r1 h1
  refine ⟨b, h3, ?_⟩
  cases b with
  | true => exact iteT (k v x H1 S1 g1 x1 r1 h2)
  | false => exact iteF ⟨δ, S1, Z, q, t.to g1 x1, h2, k.ext x1⟩
theorem dt_and (ha : PT X a (tDT K E e ta)) (hb : PW X (.BoolOp .And (b :: rest) pos) (tDT K E e tb)) : PW X (.BoolOp .And (a :: b :: rest) pos) (tDT K E e (dTAnd ta tb)) := PW.imp (pw_and ha hb) fun σ H Q h => by
  obtain ⟨δ, S, Z, q, t, h, k⟩ := h
  refine ⟨δ, S, Z, _, t, h, fun c H1 S1 g1 x1 h1 => ?_⟩
  cases c with
  | true => exact iteT ⟨δ, S1, Z, q, t.to g1 x1, h1, fun b H' S' g' x' => k b H' S' g' (x1.trans x')⟩
  | false => exact iteF (k false H1 S1 g1 x1 h1)
theorem dt_or (ha : PT X a (tDT K E e ta)) (hb : PW X (.BoolOp .Or (b :: rest) pos) (tDT K E e tb)) : PW X (.BoolOp .Or (a :: b :: rest) pos) (tDT K E e (dTOr ta tb)) := PW.imp (pw_or ha hb) fun σ H Q h => by
  obtain ⟨δ, S, Z, q, t, h, k⟩ := h
  refine ⟨δ, S, Z, _, t, h, fun c H1 S1 g1 x1 h1 => ?_⟩
  cases c with
  | true => exact iteT (k true H1 S1 g1 x1 h1)
  | false => exact iteF ⟨δ, S1, Z, q, t.to g1 x1, h1, fun b H' S' g' x' => k b H' S' g' (x1.trans x')⟩
theorem dt_not (ha : PT X a (tDT K E e ta)) : PT X (.UnaryOp .Not a pos) (tDT K E e (dTNot ta)) := PT.imp (pt_not ha) fun σ H Q h => by
  obtain ⟨δ, S, Z, q, t, h, k⟩ := h
  exact ⟨δ, S, Z, _, t, h, fun c H1 S1 g1 x1 h1 => k (!c) H1 S1 g1 x1 h1⟩
theorem de_if (ht : PT X c (tDT K E e ta)) (ha : PE X a (tD K E e da)) (hb : PE X b (tD K E e db)) : PE X (.IfExp c a b pos) (tD K E e (dIfE ta da db)) := PE.imp (pe_ifExp ht ha hb) fun σ H Q h => by
  obtain ⟨δ, S, Z, q, t, h, k⟩ := h
  refine ⟨δ, S, Z, _, t, h, fun c H1 S1 g1 x1 h1 => ?_⟩
  cases c with
  | true => exact iteT ⟨δ, S1, Z, q, t.to g1 x1, h1, k.ext x1⟩
  | false => exact iteF ⟨δ, S1, Z, q, t.to g1 x1, h1, k.ext x1⟩
theorem de_neg (ha : PE X a (tD K E e da)) : PE X (.UnaryOp .USub a pos) (tD K E e (dNeg da)) := PE.imp (pe_un un_neg ha) fun σ H Q h => by
  refine tD_seq h fun v x δ S Z H1 q t r h k => ?_
  cases x with
  | int i => exact ⟨i, r, k.here t.good h rfl⟩
  | _ => exact h.elim
theorem da_nil : PA X [] (tDA K E e dNil) := PA.imp pa_nil fun σ H Q h => by
  obtain ⟨δ, S, Z, q, t, h, k⟩ := h
  exact k [] [] H S t.good Ext.refl rfl h
theorem da_cons (ha : PE X a (tD K E e da)) (hr : PA X es (tDA K E e ts)) (hs : starEach (a :: es) X.env = (false, eval a X.env) :: starEach es X.env := by rfl) : PA X (a :: es) (tDA K E e (dCons da ts)) := PA.imp (pa_cons ha hr hs) fun σ H Q h => by
  obtain ⟨δ, S, Z, q, t, h, k⟩ := h
  exact ⟨δ, S, Z, _, t, h, fun v x H1 S1 g1 x1 r1 h1 => ⟨δ, S1, Z, _, t.to g1 x1, h1, fun vs xs H2 S2 g2 x2 r2 h2 => k (v :: vs) (x :: xs) H2 S2 g2 (x1.trans x2) ⟨v, vs, rfl, Rep.ext x2 _ _ r1, r2⟩ h2⟩⟩
theorem le_line {n : Nat} (h : n ≤ 1000) : n ≤ sizeLine := Nat.le_trans h (Nat.le_of_ble_eq_true rfl)
theorem de_tup {x1} (h : PA X es (tDA K E e ts)) : PE X (.Tuple es x1 pos) (tD K E e (dTup ts)) := PE.imp (pe_tup h) fun σ H Q h => by
  obtain ⟨δ, S, Z, q, t, h, k⟩ := h
  refine ⟨δ, S, Z, _, t, h, fun vs xs H1 S1 g1 x1 r1 h1 => ?_⟩
  obtain ⟨l1, h1⟩ := h1.le
  refine ⟨by rw [← r1.len]; exact le_line l1, fun p np => (k.ext x1).new g1 np h1 ⟨p, vs, rfl, SqT.of (out_new g1 np), Reps.ext (ext_new g1 np) _ _ r1⟩⟩
theorem de_lst (h : PA X es (tDA K E e ts)) : PE X (.List es pos) (tD K E e (dLst ts)) := PE.imp (pe_lst h) fun σ H Q h => by
  obtain ⟨δ, S, Z, q, t, h, k⟩ := h
  refine ⟨δ, S, Z, _, t, h, fun vs xs H1 S1 g1 x1 r1 h1 => ?_⟩
  obtain ⟨l1, h1⟩ := h1.le
  refine ⟨by rw [← r1.len]; exact le_line l1, fun p np => (k.ext x1).new g1 np h1 ⟨p, vs, rfl, out_new g1 np, Reps.ext (ext_new g1 np) _ _ r1⟩⟩
theorem de_lstO (h : PA X es (tDA K E e ts)) : PE X (.List es pos) (tD K E e (dLstO ts)) := PE.imp (pe_lst h) fun σ H Q h => by
  obtain ⟨δ, S, Z, q, t, h, k⟩ := h
  refine ⟨δ, S, Z, _, t, h, fun vs xs H1 S1 g1 x1 r1 h1 => ?_⟩
  obtain ⟨l1, h1⟩ := h1.le
  refine ⟨by rw [← r1.len]; exact le_line l1, fun p np => (k.ext x1).own g1 np (h1 p (g1.nS np)) ⟨vs, rfl, r1⟩⟩
end
end Dn

namespace Dn
open PySem PySem.Spec PyProof.Rows L2 Pr
/-! ## dicts by keys -/
section
variable {κ : Type} [DecidableEq κ]
def kGet (l : List (κ × Dt)) (k : κ) : Option Dt := (l.find? fun p => decide (p.1 = k)).map (·.2)
def kPut (l : List (κ × Dt)) (k : κ) (d : Dt) : List (κ × Dt) := if (l.any fun p => decide (p.1 = k)) = true then l.map (fun p => if p.1 = k then (p.1, d) else p) else l ++ [(k, d)]
def kMerge (l more : List (κ × Dt)) : List (κ × Dt) := more.foldl (fun acc p => kPut acc p.1 p.2) l
def KR (ok : κ → Prop) (K : PySem.W.Frag) (G : Hp) : List (κ × Dt) → List (κ × V) → Prop := Paired fun p q => p.1 = q.1 ∧ (ok p.1 ∧ Rep K G p.2 q.2)
variable {K : PySem.W.Frag} {G G' : Hp} {ok : κ → Prop}
theorem KR.ext {l : List (κ × Dt)} {m : List (κ × V)} (h : KR ok K G l m) (e : Ext G G') : KR ok K G' l m := Paired.mapP h fun _ _ z => ⟨z.1, z.2.1, Rep.ext e _ _ z.2.2⟩
theorem KR.get : ∀ {l : List (κ × Dt)} {m : List (κ × V)} {k : κ}, KR ok K G l m → (kGet l k = none ∧ valV m k = none) ∨ ∃ d v, kGet l k = some d ∧ valV m k = some v ∧ Rep K G d v
  | [], [], k, .nil => .inl ⟨rfl, rfl⟩
  | p :: l, q :: m, k, .cons h t => by
    obtain ⟨e, _, r⟩ := h
    unfold kGet valV
    rw [List.find?_cons, List.find?_cons, ← e]
    by_cases hk : p.1 = k
    · rw [decide_eq_true hk]; exact .inr ⟨_, _, rfl, rfl, r⟩
    · rw [decide_eq_false hk]; exact KR.get t
theorem KR.any {l : List (κ × Dt)} {m : List (κ × V)} {k : κ} (h : KR ok K G l m) : (l.any fun p => decide (p.1 = k)) = m.any fun p => decide (p.1 = k) := by
  induction h with
  | nil => rfl
  | cons h t ih => rw [List.any_cons, List.any_cons, ih, h.1]
theorem KR.put {l : List (κ × Dt)} {m : List (κ × V)} {k : κ} {d : Dt} {v : V} (h : KR ok K G l m) (o : ok k) (r : Rep K G d v) : KR ok K G (kPut l k d) (putK m k v) := by
  unfold kPut putK
  rw [h.any]
  split
  · rename_i z
    clear z
    induction h with
    | nil => exact .nil
    | cons h t ih =>
      rw [List.map_cons, List.map_cons]
      refine .cons ?_ ih
      rw [← h.1]
      split
      · exact ⟨rfl, h.2.1, r⟩
      · exact h
  · exact Paired.app h (.cons ⟨rfl, o, r⟩ .nil)
theorem KR.merge {l : List (κ × Dt)} {m : List (κ × V)} : ∀ {more : List (κ × Dt)} {mm : List (κ × V)}, KR ok K G l m → KR ok K G more mm → KR ok K G (kMerge l more) (mm.foldl (fun acc kv => putK acc kv.1 kv.2) m) := fun {more mm} h hm => by
  unfold kMerge
  induction hm generalizing l m with
  | nil => exact h
  | cons q t ih =>
    rw [List.foldl_cons, List.foldl_cons, ← q.1]
    exact ih (h.put q.2.1 q.2.2)
theorem KR.len {l : List (κ × Dt)} {m : List (κ × V)} (h : KR ok K G l m) : l.length = m.length := Paired.length h
end
theorem Repk.kr {K : PySem.W.Frag} {G : Hp} {l : List (Key × Dt)} {m : List (Key × V)} : Repk K G l m ↔ KR KOk K G l m := Repk.pair
theorem Rept.kr {K : PySem.W.Frag} {G : Hp} {l : List (List Key × Dt)} {m : List (List Key × V)} : Rept K G l m ↔ KR (fun k => ∀ x ∈ k, KOk x) K G l m := Rept.pair
@[reducible] def isKeyed (x : Dt) (S : Store) (A : Prop) : Prop := match x with
  | .dic _ => A
  | .ref a => ∃ c, S a = some c ∧ (match c with
    | .dic _ => A
    | .lck _ _ => A
    | .dct _ => A
    | _ => False)
  | _ => False
@[reducible] def dGetD (x y : Dt) (S : Store) (k : Option Dt → Prop) : Prop := match y with
  | .int i => seeD x S fun l => k (kGet l (.inl i))
  | .str z => seeD x S fun l => k (kGet l (.inr z))
  | _ => False
section
variable {K : PySem.W.Frag} {Z H : Hp} {S : Store} {v w : V} {d dy : Dt}
theorem keyed_of (g : Good K Z H S) (r : Rep K (out H S Z) d v) {A : Prop} (h : isKeyed d S A) : ∃ a, v = .ref a ∧ IsD H a ∧ A := by
  cases d with
  | dic l => obtain ⟨a, vs, rfl, h1, h2⟩ := r; exact ⟨a, rfl, .inl ⟨vs, Rd.out h1⟩, h⟩
  | ref a =>
    obtain ⟨c, h1, h2⟩ := h
    obtain ⟨o, h3, h4⟩ := g.c a _ h1
    cases c with
    | dic l => obtain ⟨vs, rfl, h5⟩ := h4; exact ⟨a, r, .inl ⟨vs, .inl h3⟩, h2⟩
    | lck u l => obtain ⟨_, ob, vs, rfl, h5⟩ := h4; exact ⟨a, r, .inl ⟨vs, .inr ⟨ob, h3⟩⟩, h2⟩
    | dct l => obtain ⟨vs, rfl, h5⟩ := h4; exact ⟨a, r, .inr ⟨vs, .inl h3⟩, h2⟩
    | _ => exact h2.elim
  | _ => exact h.elim
theorem getD_of (g : Good K Z H S) (r : Rep K (out H S Z) d v) (ry : Rep K (out H S Z) dy w) {k : Option Dt → Prop} (h : dGetD d dy S k) : ∃ a o, v = .ref a ∧ k o ∧ ((o = none ∧ DGet H a w none) ∨ ∃ x u, o = some x ∧ DGet H a w (some u) ∧ Rep K (out H S Z) x u) := by
  have go : ∀ key : Key, w = kV key → (seeD d S fun l => k (kGet l key)) → ∃ a o, v = .ref a ∧ k o ∧ ((o = none ∧ DGet H a w none) ∨ ∃ x u, o = some x ∧ DGet H a w (some u) ∧ Rep K (out H S Z) x u) := fun key e h => by
    obtain ⟨a, vs, l, rfl, h1, h2, h3⟩ := see_dic g r h
    refine ⟨a, _, rfl, h3, ?_⟩
    rcases KR.get (k := key) (Repk.kr.mp h2) with ⟨e1, e2⟩ | ⟨x, u, e1, e2, e3⟩
    · exact .inl ⟨e1, .inl ⟨vs, key, h1, e, e2.symm⟩⟩
    · exact .inr ⟨x, u, e1, .inl ⟨vs, key, h1, e, e2.symm⟩, e3⟩
  cases dy with
  | int i => exact go (.inl i) ry h
  | str z => exact go (.inr z) ry.1 h
  | _ => exact h.elim
end
@[reducible] def dDget (a b : DTE) : DTE := fun δ S q => a δ S fun x S1 => b δ S1 fun y S2 => dGetD x y S2 fun o => ∃ d, o = some d ∧ q d S2
@[reducible] def dDin (b a : DTE) : DTE := fun δ S q => b δ S fun y S1 => a δ S1 fun x S2 => dGetD x y S2 fun o => q (.bl o.isSome) S2
@[reducible] def dDget1 (a b : DTE) : DTE := fun δ S q => a δ S fun x S1 => isKeyed x S1 (b δ S1 fun y S2 => dGetD x y S2 fun o => q (o.getD .non) S2)
section
variable {X : Cx} {K : PySem.W.Frag} {E : XK} {e : DX} {pos pos' apos cpos : Pos} {a b c ex : Expr} {es rest : List Expr} {da db dc : DTE} {ta tb : DTT} {ts : DTA}
theorem de_dget (hu : X.A.units + 1 < cLine) (ha : PE X a (tD K E e da)) (hb : PE X b (tD K E e db)) (hs : NoSl b) : PE X (.Subscript a b pos) (tD K E e (dDget da db)) := PE.imp (pe_dget hu ha hb hs) fun σ H Q h => by
  obtain ⟨δ, S, Z, q, t, h, k⟩ := h
  refine ⟨δ, S, Z, _, t, h, fun v x H1 S1 g1 x1 r1 h1 => ⟨δ, S1, Z, _, t.to g1 x1, h1, fun w y H2 S2 g2 x2 r2 h2 => ?_⟩⟩
  obtain ⟨a, o, rfl, ⟨d, rfl, h3⟩, h4⟩ := getD_of g2 (Rep.ext x2 _ _ r1) r2 h2
  rcases h4 with ⟨h4, _⟩ | ⟨x', u, h5, h6, h7⟩
  · cases h4
  · cases h5
    exact ⟨a, u, rfl, h6, (k.ext (x1.trans x2)).here g2 h3 h7⟩
theorem de_dget1 (hu : X.A.units + 1 < cLine) (ha : PE X a (tD K E e da)) (hb : PE X b (tD K E e db)) (m : M1 X a "get" apos b cpos) : PE X (.Call (.Attribute a "get" apos) [b] [] cpos) (tD K E e (dDget1 da db)) := PE.imp (pe_dget1 hu ha hb m) fun σ H Q h => by
  obtain ⟨δ, S, Z, q, t, h, k⟩ := h
  refine ⟨δ, S, Z, _, t, h, fun v x H1 S1 g1 x1 r1 h1 => ?_⟩
  obtain ⟨a, rfl, hd, h1⟩ := keyed_of g1 r1 h1
  refine ⟨a, rfl, hd, δ, S1, Z, _, t.to g1 x1, h1, fun w y H2 S2 g2 x2 r2 h2 => ?_⟩
  obtain ⟨a', o, ea, h3, h4⟩ := getD_of g2 (Rep.ext x2 _ _ r1) r2 h2
  cases ea
  rcases h4 with ⟨rfl, h4⟩ | ⟨x', u, rfl, h6, h7⟩
  · exact ⟨_, h4, (k.ext (x1.trans x2)).here g2 h3 rfl⟩
  · exact ⟨_, h6, (k.ext (x1.trans x2)).here g2 h3 h7⟩
@[reducible] def dNewD : DTE := fun _ S q => ∀ p, S p = none → q (.ref p) (sput S p (.dic []))
theorem de_dnewO : PE X (.Dict [] [] pos) (tD K E e dNewD) := PE.imp pe_dnewK fun σ H Q h => by
  obtain ⟨δ, S, Z, q, t, h, k⟩ := h
  exact fun p np => k.own t.good np (h p (t.good.nS np)) ⟨[], rfl, rfl⟩
end
/-! ## something that is made while it is hidden -/
section
variable {K : PySem.W.Frag} {Z H H' : Hp} {S S' : Store} {p : Addr} {o o' : HO}
theorem hide_out (g : Good K Z H S) (n : H p = none) : out (upd H p o) S (upd Z p o) = out H S Z := by
  funext b
  by_cases hb : b = p
  · subst hb
    have e1 : out (upd H b o) S (upd Z b o) b = none := by
      unfold out
      rw [if_pos]
      rw [upd_same]; exact .inr rfl
    rw [e1, out_of (g.nS n) (g.nZ n), n]
  · unfold out
    rw [upd_ne hb, upd_ne hb]
theorem Good.hide (g : Good K Z H S) (n : H p = none) (hd : Hid o := by first | exact .inl ⟨_, rfl⟩ | exact .inr ⟨_, rfl⟩) : Good K (upd Z p o) (upd H p o) S := by
  refine ⟨fun b x e => ?_, fun b x e => ?_⟩
  · by_cases hb : b = p
    · subst hb
      rw [upd_same] at e
      cases e
      exact ⟨upd_same, g.nS n, hd⟩
    · rw [upd_ne hb] at e
      rw [upd_ne hb]
      exact g.z b x e
  · rw [hide_out g n]
    obtain ⟨o', h1, h2⟩ := g.c b x e
    exact ⟨o', (upd_ne (ne_of_none h1 n)).trans h1, h2⟩
/-- what is hidden may change -/
theorem rehide_out : out (upd H p o') S (upd Z p o') = out H S (upd Z p o) := by
  funext b
  by_cases hb : b = p
  · subst hb
    unfold out
    rw [if_pos (.inr (by rw [upd_same]; rfl)), if_pos (.inr (by rw [upd_same]; rfl))]
  · unfold out
    rw [upd_ne hb, upd_ne hb, upd_ne hb]
theorem Good.rehide (g : Good K (upd Z p o) H S) (hd : Hid o' := by first | exact .inl ⟨_, rfl⟩ | exact .inr ⟨_, rfl⟩) : Good K (upd Z p o') (upd H p o') S := by
  refine ⟨fun b x e => ?_, fun b x e => ?_⟩
  · by_cases hb : b = p
    · subst hb
      rw [upd_same] at e
      cases e
      exact ⟨upd_same, (g.z b o upd_same).2.1, hd⟩
    · rw [upd_ne hb] at e
      rw [upd_ne hb]
      exact g.z b x (by rw [upd_ne hb]; exact e)
  · rw [rehide_out (o := o)]
    obtain ⟨o2, h1, h2⟩ := g.c b x e
    have hb : b ≠ p := fun z => by
      subst z
      have := (g.z b o upd_same).2.1
      rw [e] at this
      cases this
    exact ⟨o2, (upd_ne hb).trans h1, h2⟩
theorem Good.at (g : Good K (upd Z p o) H S) : H p = some o := (g.z p o upd_same).1
theorem Good.noS (g : Good K (upd Z p o) H S) : S p = none := (g.z p o upd_same).2.1
/-- it comes out -/
theorem show_ext (g : Good K (upd Z p o) H S) (nz : Z p = none) : Ext (out H S (upd Z p o)) (out (upd H p o') S Z) := Ext.of fun b x h => by
  obtain ⟨h1, h2, h3⟩ := out_some h
  have hb : b ≠ p := fun z => by rw [z, upd_same] at h2; cases h2
  rw [upd_ne hb] at h2
  rw [out_of h1 h2, upd_ne hb]
  exact h3
theorem Good.shown (g : Good K (upd Z p o) H S) (nz : Z p = none) : Good K Z (upd H p o') S := by
  refine ⟨fun b x e => ?_, fun b x e => ?_⟩
  · have hb : b ≠ p := fun z => by rw [z, nz] at e; cases e
    rw [upd_ne hb]
    exact g.z b x (by rw [upd_ne hb]; exact e)
  · obtain ⟨o2, h1, h2⟩ := g.c b x e
    have hb : b ≠ p := fun z => by
      subst z
      have := (g.z b o upd_same).2.1
      rw [e] at this
      cases this
    exact ⟨o2, (upd_ne hb).trans h1, CRep.ext (show_ext g nz) _ _ h2⟩
theorem shown_at (g : Good K (upd Z p o) H S) (nz : Z p = none) : out (upd H p o') S Z p = some o' := by
  rw [out_of g.noS nz, upd_same]
/-- it comes out as a cell -/
theorem showO_out (g : Good K (upd Z p o) H S) (nz : Z p = none) {c : Cell} : out (upd H p o') (sput S p c) Z = out H S (upd Z p o) := by
  funext b
  by_cases hb : b = p
  · subst hb
    unfold out
    rw [if_pos (.inl (by rw [sput_same]; rfl)), if_pos (.inr (by rw [upd_same]; rfl))]
  · unfold out
    rw [upd_ne hb, upd_ne hb, sput_ne hb]
theorem Good.shownO (g : Good K (upd Z p o) H S) (nz : Z p = none) {c : Cell} (r : CRep K (out H S (upd Z p o)) c o') : Good K Z (upd H p o') (sput S p c) := by
  refine ⟨fun b x e => ?_, fun b x e => ?_⟩
  · have hb : b ≠ p := fun z => by rw [z, nz] at e; cases e
    rw [upd_ne hb, sput_ne hb]
    exact g.z b x (by rw [upd_ne hb]; exact e)
  · rw [showO_out g nz]
    by_cases hb : b = p
    · subst hb
      rw [sput_same] at e
      cases e
      exact ⟨o', upd_same, r⟩
    · rw [sput_ne hb] at e
      rw [upd_ne hb]
      exact g.c b x e
/-- what leaves while it is hidden -/
theorem Good.bare (g : Good K (upd Z p o) H S) (nz : Z p = none) : Good K Z H S := by
  have h := g.shown (o' := o) nz
  have e : upd H p o = H := by
    funext b
    by_cases hb : b = p
    · rw [hb, upd_same, g.at]
    · rw [upd_ne hb]
  rw [e] at h
  exact h
theorem bare_ext (g : Good K (upd Z p o) H S) (nz : Z p = none) : Ext (out H S (upd Z p o)) (out H S Z) := by
  have h := show_ext (o' := o) g nz
  have e : upd H p o = H := by
    funext b
    by_cases hb : b = p
    · rw [hb, upd_same, g.at]
    · rw [upd_ne hb]
  rw [e] at h
  exact h
theorem Lk.hide {E : XK} {e : DX} {G : Hp} (h : Lk K E e Z G) (nz : Z p = none) : Lk K E e (upd Z p o) G := fun c H' S' g x q => h c H' S' (g.bare nz) (x.trans (bare_ext g nz)) q
end
end Dn

namespace Dn
open PySem PySem.Spec PyProof.Rows L2 Pr
/-! ## written dicts -/
@[reducible] def keyOf (x : Dt) (k : Key → Prop) : Prop := match x with
  | .int i => k (.inl i)
  | .str z => k (.inr z)
  | _ => False
@[reducible] def dPairs : List (DTE × DTE) → DS → Store → (List (Key × Dt) → Store → Prop) → Prop
  | [], _, S, q => q [] S
  | (k, v) :: r, δ, S, q => k δ S fun x S1 => v δ S1 fun y S2 => keyOf x fun key => dPairs r δ S2 fun ps S3 => q ((key, y) :: ps) S3
@[reducible] def dDisp (trs : List (DTE × DTE)) : DTE := fun δ S q => dPairs trs δ S fun ps S1 => q (.dic (kMerge [] ps)) S1
section
variable {X : Cx} {K : PySem.W.Frag} {E : XK} {e : DX} {pos pos' apos cpos : Pos} {a b c ex : Expr} {es rest : List Expr} {da db dc : DTE} {ta tb : DTT} {ts : DTA} {keys : List (Option Expr)} {values : List Expr}
theorem keyOf_rep {G : Hp} {x : Dt} {v : V} (r : Rep K G x v) {k : Key → Prop} (h : keyOf x k) : ∃ key, v = kV key ∧ KOk key ∧ k key := by
  cases x with
  | int i => exact ⟨.inl i, r, trivial, h⟩
  | str z => exact ⟨.inr z, r.1, r.2, h⟩
  | _ => exact h.elim
theorem pairs_run : ∀ (trs : List (DTE × DTE)) (σ : L2.St) (δ : DS) (H : Hp) (S : Store) (Z : Hp) (q : List (Key × Dt) → Store → Prop) (Q : List (V × V) → Hp → Prop), At K E e Z H S σ δ → dPairs trs δ S q →
    (∀ (kvs : List (Key × V)) (ds : List (Key × Dt)) H' S', Good K Z H' S' → Ext (out H S Z) (out H' S' Z) → KR KOk K (out H' S' Z) ds kvs → kvs.length = trs.length → q ds S' → Q (kvs.map fun kv => (kV kv.1, kv.2)) H') → tPairs (trs.map fun p => (tD K E e p.1, tD K E e p.2)) σ H Q
  | [], σ, δ, H, S, Z, q, Q, t, h, k => k [] [] H S t.good Ext.refl .nil rfl h
  | (a, b) :: r, σ, δ, H, S, Z, q, Q, t, h, k => by
    refine ⟨δ, S, Z, _, t, h, fun v x H1 S1 g1 x1 r1 h1 => ⟨δ, S1, Z, _, t.to g1 x1, h1, fun w y H2 S2 g2 x2 r2 h2 => ?_⟩⟩
    obtain ⟨key, e1, ko, h3⟩ := keyOf_rep r1 h2
    refine pairs_run r σ δ H2 S2 Z _ _ (t.to g2 (x1.trans x2)) h3 fun kvs ds H3 S3 g3 x3 r3 l3 h4 => ?_
    subst e1
    exact k ((key, w) :: kvs) ((key, y) :: ds) H3 S3 g3 (x1.trans (x2.trans x3)) (.cons ⟨rfl, ko, Rep.ext x3 _ _ r2⟩ r3) (congrArg (· + 1) l3) h4
theorem de_disp {trs : List (DTE × DTE)} (h : PPs X pos keys values (trs.map fun p => (tD K E e p.1, tD K E e p.2))) (hall : keys.all (·.isSome) = true) (hl : keys.length = values.length) (h0 : keys ≠ []) (h15 : keys.length ≤ 15) (hn : trs.length ≤ 15 := by decide) :
    PE X (.Dict keys values pos) (tD K E e (dDisp trs)) := PE.imp (pe_disp h hall hl h0 h15) fun σ H Q h => by
  obtain ⟨δ, S, Z, q, t, h, k⟩ := h
  intro p np
  have g0 := t.good.hide (o := .dK []) np
  have nz := t.good.nZ np
  have o0 := hide_out (o := HO.dK []) t.good np
  refine pairs_run trs σ δ _ S (upd Z p (.dK [])) _ _ ⟨g0, by rw [o0]; exact t.sl, by rw [o0]; exact t.lk.hide nz⟩ h fun kvs ds H1 S1 g1 x1 r1 l1 h1 => ?_
  rw [o0] at x1
  refine ⟨g1.at, kvs, rfl, by omega, ?_⟩
  refine k _ (.dic (kMerge [] ds)) _ S1 (g1.shown nz) (x1.trans (show_ext g1 nz)) ⟨p, _, rfl, .inl (shown_at g1 nz), ?_⟩ h1
  exact Repk.kr.mpr (KR.merge .nil (r1.ext (show_ext g1 nz)))
theorem dps_nil : PPs X pos [] [] (([] : List (DTE × DTE)).map fun p => (tD K E e p.1, tD K E e p.2)) := pps_nil
theorem dps_cons {ks : List (Option Expr)} {vs : List Expr} {trs : List (DTE × DTE)} (ha : PE X a (tD K E e da)) (hb : PE X b (tD K E e db)) (hr : PPs X pos ks vs (trs.map fun p => (tD K E e p.1, tD K E e p.2))) :
    PPs X pos (some a :: ks) (b :: vs) (((da, db) :: trs).map fun p => (tD K E e p.1, tD K E e p.2)) := pps_cons ha hb hr
end
/-! ## items and parts -/
@[reducible] def dAtN : List Dt → Nat → (Dt → Prop) → Prop
  | x :: _, 0, k => k x
  | _ :: l, n + 1, k => dAtN l n k
  | [], _, _ => False
theorem dAtN.get : ∀ {l : List Dt} {n : Nat} {k : Dt → Prop}, dAtN l n k → ∃ d, l[n]? = some d ∧ k d
  | [], _, _, h => h.elim
  | x :: _, 0, k, h => ⟨x, rfl, h⟩
  | _ :: l, n + 1, k, h => by
    obtain ⟨d, h1, h2⟩ := dAtN.get (l := l) h
    exact ⟨d, by simpa using h1, h2⟩
/-- x[3], a written number -/
@[reducible] def dIxC (a : DTE) (n : Nat) : DTE := fun δ S q => a δ S fun x S1 => match x with
  | .str z => ∃ c, z.cps.toList[n]? = some c ∧ q (.str ⟨#[c]⟩) S1
  | x => seeQ x S1 fun l => dAtN l n fun d => q d S1
@[reducible] def rIx : D2 := fun x y S q => match x, y with
  | .str z, .int i => ∃ c, atI z.cps.toList i = some c ∧ q (.str ⟨#[c]⟩) S
  | x, .int i => seeQ x S fun l => ∃ d, atI l i = some d ∧ q d S
  | _, _ => False
def cutD (l : List Dt) (lo hi : Option Int) : List Dt := (l.drop (HT.sIx l.length 0 lo)).take (HT.sIx l.length l.length hi - HT.sIx l.length 0 lo)
@[reducible] def rSl (x : Dt) (lo hi : Option Int) (S : Store) (q : DK) : Prop := match x with
  | .str z => q (.str (cutS z lo hi)) S
  | .tup l => q (.tup (cutD l lo hi)) S
  | .scr ns => q (.lst (cutD (ns.map Dt.int) lo hi)) S
  | x => seeL x S fun l => q (.lst (cutD l lo hi)) S
abbrev DTO := DS → Store → (Option Int → Store → Prop) → Prop
def tDO (K : PySem.W.Frag) (E : XK) (e : DX) (d : DTO) : TO := fun σ H Q => ∃ δ S Z q, At K E e Z H S σ δ ∧ d δ S q ∧ ∀ i H' S', Good K Z H' S' → Ext (out H S Z) (out H' S' Z) → q i S' → Q i H'
@[reducible] def dNoPart : DTO := fun _ S q => q none S
@[reducible] def dPart (a : DTE) : DTO := fun δ S q => a δ S fun x S1 => match x with
  | .int i => q (some i) S1
  | _ => False
@[reducible] def dSl (a : DTE) (lo hi : DTO) : DTE := fun δ S q => a δ S fun x S1 => lo δ S1 fun l S2 => hi δ S2 fun h S3 => rSl x l h S3 q
def rDS (K : PySem.W.Frag) (x : V) (lo hi : Option Int) (H : Hp) (Q : VK) : Prop := ∃ d S Z q, Good K Z H S ∧ Rep K (out H S Z) d x ∧ rSl d lo hi S q ∧ Ty K Z H S q Q
theorem atI_pair {α β : Type} {F : α → β → Prop} {l : List α} {m : List β} {i : Int} {x : α} (h : Paired F l m) (e : atI l i = some x) : ∃ y, atI m i = some y ∧ F x y := by
  unfold atI at e ⊢
  rw [← Paired.length h]
  cases hi : ixN l.length i with
  | none => rw [hi] at e; cases e
  | some j =>
    rw [hi] at e
    exact Paired.get h e
theorem atI_mem {α : Type} {l : List α} {i : Int} {x : α} (e : atI l i = some x) : x ∈ l := by
  unfold atI at e
  cases hi : ixN l.length i with
  | none => rw [hi] at e; cases e
  | some j => rw [hi] at e; exact List.mem_of_getElem? e
theorem cutV_pair {K : PySem.W.Frag} {G : Hp} {l : List Dt} {vs : List V} {lo hi : Option Int} (h : Reps K G l vs) : Reps K G (cutD l lo hi) (cutV vs lo hi) := by
  unfold cutD cutV
  show Reps K G _ ((vs.drop (HT.sIx vs.length 0 lo)).take (HT.sIx vs.length vs.length hi - HT.sIx vs.length 0 lo))
  rw [← h.len]
  exact Reps.pair.mpr (Paired.take _ (Paired.drop _ (Reps.pair.mp h)))
section
variable {X : Cx} {K : PySem.W.Frag} {E : XK} {e : DX} {pos pos' apos cpos p2 : Pos} {a b c ex : Expr} {es rest : List Expr} {da db dc : DTE} {ta tb : DTT} {ts : DTA} {lo hi : Option Expr} {dl dh : DTO}
theorem ix_D (hK : X.K = K) : IxR X (rD K rIx) := by
  subst hK
  intro value slice pins s σ H x y v u Q I rv ru h sub
  obtain ⟨dx, dy, S, Z, q, g, rx, ry, h, k⟩ := h
  have seq : ∀ i : Int, y = .int i → (seeQ dx S fun l => ∃ d, atI l i = some d ∧ q d S) → wpAny (model X.prog X.w) X.A (subscriptTail value slice v u) (EP X pins σ Q) X.xe s := fun i ei h0 => by
    obtain ⟨p, vs, l, rfl, hp, hl, d, hd, hq⟩ := see_seq g rx h0
    obtain ⟨y', h1, h2⟩ := atI_pair (Reps.pair.mp hl) hd
    rcases hp with hp | hp
    · exact ix_list value slice pins s σ H _ y v u Q I rv ru ⟨p, vs, i, y', rfl, ei, hp, h1, k.here g hq h2⟩ sub
    · exact ix_tup value slice pins s σ H _ y v u Q I rv ru ⟨p, vs, i, y', rfl, ei, hp, h1, k.here g hq h2⟩ sub
  cases dy with
  | int i =>
    cases dx with
    | str z =>
      obtain ⟨c, hc, hq⟩ := h
      exact ix_str value slice pins s σ H x y v u Q I rv ru ⟨z, i, c, rx.1, ry, rx.2.len, hc, k.here g hq ⟨rfl, rx.2.sign (atI_mem hc)⟩⟩ sub
    | _ => exact seq i ry h
  | _ => cases dx <;> exact h.elim
theorem de_ix (hK : X.K = K) (ha : PE X a (tD K E e da)) (hb : PE X b (tD K E e db)) (hs : PlainIx b := by exact fun _ _ => rfl) : PE X (.Subscript a b pos) (tD K E e (dOp rIx da db)) := PE.imp (pe_ix (ix_D hK) ha hb hs) fun _ _ _ h => tD_op h
theorem de_ixC (hK : X.K = K) {n : Nat} {j} (ha : PE X a (tD K E e da)) (hs : PlainIx (.Constant (.int (n : Int)) j p2) := by exact fun _ _ => rfl) : PE X (.Subscript a (.Constant (.int (n : Int)) j p2) pos) (tD K E e (dIxC da n)) := PE.imp (pe_ix (ix_D hK) ha pe_int hs) fun σ H Q h => by
  refine tD_seq (f := fun x S q => match x with
    | .str z => ∃ c, z.cps.toList[n]? = some c ∧ q (.str ⟨#[c]⟩) S
    | x => seeQ x S fun l => dAtN l n fun d => q d S) h fun v x δ S Z H1 q t r h k => ?_
  refine ⟨x, .int n, S, Z, q, t.good, r, rfl, ?_, k⟩
  cases x with
  | str z => obtain ⟨c, h1, h2⟩ := h; exact ⟨c, atI_nat h1, h2⟩
  | lst l => obtain ⟨d, h1, h2⟩ := dAtN.get h; exact ⟨d, atI_nat h1, h2⟩
  | tup l => obtain ⟨d, h1, h2⟩ := dAtN.get h; exact ⟨d, atI_nat h1, h2⟩
  | ptp l => obtain ⟨d, h1, h2⟩ := dAtN.get h; exact ⟨d, atI_nat h1, h2⟩
  | ref a => obtain ⟨l, h0, h⟩ := h; obtain ⟨d, h1, h2⟩ := dAtN.get h; exact ⟨l, h0, d, atI_nat h1, h2⟩
  | _ => exact h.elim
theorem sl_D (hK : X.K = K) : SlR X (rDS K) := by
  subst hK
  intro pins s σ H x v vl vu lo hi sl Q I rv is pl ph h
  obtain ⟨d, S, Z, q, g, r, h, k⟩ := h
  have lists : (seeL d S fun l => q (.lst (cutD l lo hi)) S) → ∃ T id, typeLookup (.type T) "__getitem__" = pure (some (.builtin id)) ∧ s.TypeIs v T ∧ wpAny (model X.prog X.w) X.A (getItem v (.ref sl)) (EP X pins σ Q) X.xe s := fun h => by
    obtain ⟨p, vs, l, rfl, hp, hl, hq⟩ := see_lst g r h
    exact sl_list pins s σ H _ v vl vu lo hi sl Q I rv is pl ph ⟨p, vs, rfl, SqL.of hp, fun p np => k.new g np hq ⟨p, _, rfl, out_new g np, cutV_pair (Reps.ext (ext_new g np) _ _ hl)⟩⟩
  cases d with
  | str z => exact sl_str pins s σ H x v vl vu lo hi sl Q I rv is pl ph ⟨z, r.1, r.2.len, k.here g h ⟨rfl, r.2.sub (fun c hc => List.mem_of_mem_drop (List.mem_of_mem_take (by
      unfold cutS at hc; simpa using hc))) (by
      rw [len_cps, len_cps]; unfold cutS; simp; omega)⟩⟩
  | tup l =>
    obtain ⟨p, vs, rfl, hp, hl⟩ := r
    refine sl_tupA pins s σ H _ v vl vu lo hi sl Q I rv is pl ph ⟨p, vs, rfl, SqT.out hp, fun hw => ?_, fun hw p np => ?_⟩
    · have e : cutD l lo hi = l := by
        obtain ⟨h1, h2⟩ := hw
        have h1 : HT.sIx vs.length 0 lo = 0 := h1
        have h2 : HT.sIx vs.length vs.length hi = vs.length := h2
        unfold cutD
        rw [hl.len, h1, h2]
        simp [← hl.len]
      have h : q (.tup (cutD l lo hi)) S := h
      rw [e] at h
      exact k.here g h ⟨p, vs, rfl, hp, hl⟩
    · exact k.new g np h ⟨p, _, rfl, SqT.of (out_new g np), cutV_pair (Reps.ext (ext_new g np) _ _ hl)⟩
  | scr ns =>
    obtain ⟨a, rfl, h1⟩ := r
    have h2 : SqL X.K H a (ns.map V.int) := by
      rcases h1 with (h1 | ⟨ob, h1⟩) | h1
      · exact .inl (.inl (out_le h1))
      · exact .inl (.inr ⟨ob, out_le h1⟩)
      · exact .inr h1
    have ri : ∀ (l : List Int) (G : Hp), Reps X.K G (l.map Dt.int) (l.map V.int) := fun l G => by
      induction l with
      | nil => exact rfl
      | cons x l ih => exact ⟨_, _, rfl, rfl, ih⟩
    exact sl_list pins s σ H _ v vl vu lo hi sl Q I rv is pl ph ⟨a, _, rfl, h2, fun p np => k.new g np h ⟨p, _, rfl, out_new g np, cutV_pair (ri ns _)⟩⟩
  | _ => exact lists h
theorem do_none : PO X none (tDO K E e dNoPart) := ⟨fun pins s σ H Q I h => by
  obtain ⟨δ, S, Z, q, t, h, k⟩ := h
  exact po_none.run pins s σ H Q I (k none H S t.good Ext.refl h)⟩
theorem do_some (ha : PE X a (tD K E e da)) : PO X (some a) (tDO K E e (dPart da)) := ⟨fun pins s σ H Q I h => by
  refine (po_some ha).run pins s σ H Q I ?_
  obtain ⟨δ, S, Z, q, t, h, k⟩ := h
  refine ⟨δ, S, Z, _, t, h, fun v x H1 S1 g1 x1 r1 h1 => ?_⟩
  cases x with
  | int i => exact ⟨i, r1, k (some i) H1 S1 g1 x1 h1⟩
  | _ => exact h1.elim⟩
theorem de_sl (hK : X.K = K) (ha : PE X a (tD K E e da)) (hl : PO X lo (tDO K E e dl)) (hh : PO X hi (tDO K E e dh)) : PE X (.Subscript a (.Slice lo hi none p2) pos) (tD K E e (dSl da dl dh)) := PE.imp (pe_slice (sl_D hK) ha hl hh) fun σ H Q h => by
  obtain ⟨δ, S, Z, q, t, h, k⟩ := h
  exact ⟨δ, S, Z, _, t, h, fun v x H1 S1 g1 x1 r1 h1 => ⟨δ, S1, Z, _, t.to g1 x1, h1, fun i H2 S2 g2 x2 h2 => ⟨δ, S2, Z, _, t.to g2 (x1.trans x2), h2, fun j H3 S3 g3 x3 h3 => ⟨x, S3, Z, q, g3, Rep.ext (x2.trans x3) _ _ r1, h3, k.ext (x1.trans (x2.trans x3))⟩⟩⟩⟩
end
end Dn

namespace Dn
open PySem PySem.Spec PyProof.Rows L2 Pr
/-! ## attributes -/
structure FldI (K : PySem.W.Frag) (C : Addr) (nm : List Str) (f : Str) (i : Nat) : Prop where
  cls : Cls K C
  no : NoAttr K C f
  nd : nm.Nodup
  at' : nm[i]? = some f
  few : nm.length < 1000
@[reducible] def seeO (C : Addr) (nm : List Str) (x : Dt) (S : Store) (k : List Dt → Prop) : Prop := match x with
  | .obj C' nm' l => (C' = C ∧ nm' = nm) ∧ k l
  | .ref a => ∃ l, S a = some (.ins C nm l) ∧ k l
  | _ => False
@[reducible] def dFld (C : Addr) (nm : List Str) (i : Nat) (a : DTE) : DTE := fun δ S q => a δ S fun x S1 => seeO C nm x S1 fun l => dAtN l i fun d => q d S1
@[reducible] def putAt : List Dt → Nat → Dt → (List Dt → Prop) → Prop
  | [], 0, y, k => k [y]
  | _ :: l, 0, y, k => k (y :: l)
  | x :: l, n + 1, y, k => putAt l n y fun r => k (x :: r)
  | [], _ + 1, _, _ => False
theorem putAt.of : ∀ {l : List Dt} {n : Nat} {y : Dt} {k : List Dt → Prop}, putAt l n y k → (n < l.length ∧ k (l.set n y)) ∨ (n = l.length ∧ k (l ++ [y]))
  | [], 0, y, k, h => .inr ⟨rfl, h⟩
  | x :: l, 0, y, k, h => .inl ⟨Nat.succ_pos _, h⟩
  | x :: l, n + 1, y, k, h => by
    rcases putAt.of (l := l) (n := n) h with ⟨h1, h2⟩ | ⟨h1, h2⟩
    · exact .inl ⟨Nat.succ_lt_succ h1, h2⟩
    · exact .inr ⟨congrArg (· + 1) h1, h2⟩
  | [], _ + 1, _, _, h => h.elim
/-- o.f = e -/
@[reducible] def dSetF (C : Addr) (nm : List Str) (i : Nat) (o v : DTE) : DTS := fun D δ S => v δ S fun y S1 => o δ S1 fun x S2 => match x with
  | .ref a => ∃ l, S2 a = some (.ins C nm l) ∧ putAt l i y fun l' => D.nx δ (sput S2 a (.ins C nm l'))
  | _ => False
/-- o.f op= e -/
@[reducible] def dAugF (C : Addr) (nm : List Str) (i : Nat) (dr : D2) (o v : DTE) : DTS := fun D δ S => o δ S fun x S1 => match x with
  | .ref a => ∃ l, S1 a = some (.ins C nm l) ∧ dAtN l i fun d => v δ S1 fun y S2 => dr d y S2 fun z S3 => ∃ l', S3 a = some (.ins C nm l') ∧ putAt l' i z fun l'' => D.nx δ (sput S3 a (.ins C nm l''))
  | _ => False
section
variable {K : PySem.W.Frag} {G : Hp}
theorem lookup_zip : ∀ {nm : List Str} {n i : Nat} {vs : List V} {f : Str} {v : V}, nm.Nodup → nm[i]? = some f → vs[i]? = some v → i < n → ((nm.take n).zip vs).lookup f = some v
  | [], _, _, _, _, _, _, h, _, _ => by simp at h
  | x :: nm, 0, _, _, _, _, _, _, _, h => absurd h (Nat.not_lt_zero _)
  | x :: nm, n + 1, i, [], _, _, _, _, h, _ => by simp at h
  | x :: nm, n + 1, 0, v' :: vs, f, v, nd, h1, h2, _ => by
    simp at h1 h2
    subst h1 h2
    show ((x, v') :: ((nm.take n).zip vs)).lookup x = some v'
    rw [List.lookup_cons_self]
  | x :: nm, n + 1, i + 1, v' :: vs, f, v, nd, h1, h2, h3 => by
    have h1 : nm[i]? = some f := by simpa using h1
    have nx : f ≠ x := fun e => (List.nodup_cons.mp nd).1 (e ▸ List.mem_of_getElem? h1)
    show ((x, v') :: ((nm.take n).zip vs)).lookup f = some v
    rw [List.lookup_cons, show (f == x) = false from by simpa using nx]
    exact lookup_zip (List.nodup_cons.mp nd).2 h1 (by simpa using h2) (Nat.lt_of_succ_lt_succ h3)
theorem putF_zip_set : ∀ {nm : List Str} {n i : Nat} {vs : List V} {f : Str} {y : V}, nm.Nodup → nm[i]? = some f → i < n → vs.length = n → n ≤ nm.length → putF f y ((nm.take n).zip vs) = (nm.take n).zip (vs.set i y)
  | [], _, _, _, _, _, _, h, _, _, _ => by simp at h
  | x :: nm, 0, _, _, _, _, _, _, h, _, _ => absurd h (Nat.not_lt_zero _)
  | x :: nm, n + 1, i, [], _, _, _, _, _, h, _ => by simp at h
  | x :: nm, n + 1, 0, v' :: vs, f, y, nd, h1, h2, _, _ => by
    simp at h1
    subst h1
    show putF x y ((x, v') :: ((nm.take n).zip vs)) = (x, y) :: ((nm.take n).zip vs)
    unfold putF
    rw [if_pos rfl]
  | x :: nm, n + 1, i + 1, v' :: vs, f, y, nd, h1, h2, h3, h4 => by
    have h1 : nm[i]? = some f := by simpa using h1
    have nx : ¬ x = f := fun e => (List.nodup_cons.mp nd).1 (e ▸ List.mem_of_getElem? h1)
    show putF f y ((x, v') :: ((nm.take n).zip vs)) = (x, v') :: ((nm.take n).zip (vs.set i y))
    unfold putF
    rw [if_neg nx, putF_zip_set (List.nodup_cons.mp nd).2 h1 (Nat.lt_of_succ_lt_succ h2) (by simpa using h3) (by simpa using h4)]
theorem putF_zip_new : ∀ {nm : List Str} {n : Nat} {vs : List V} {f : Str} {y : V}, nm.Nodup → nm[n]? = some f → vs.length = n → putF f y ((nm.take n).zip vs) = (nm.take (n + 1)).zip (vs ++ [y])
  | [], _, _, _, _, _, h, _ => by simp at h
  | x :: nm, 0, [], f, y, nd, h1, _ => by
    simp at h1
    subst h1
    rfl
  | x :: nm, 0, _ :: _, _, _, _, _, h => by simp at h
  | x :: nm, n + 1, [], _, _, _, _, h => by simp at h
  | x :: nm, n + 1, v' :: vs, f, y, nd, h1, h3 => by
    have h1 : nm[n]? = some f := by simpa using h1
    have nx : ¬ x = f := fun e => (List.nodup_cons.mp nd).1 (e ▸ List.mem_of_getElem? h1)
    show putF f y ((x, v') :: ((nm.take n).zip vs)) = (x, v') :: ((nm.take (n + 1)).zip (vs ++ [y]))
    unfold putF
    rw [if_neg nx, putF_zip_new (List.nodup_cons.mp nd).2 h1 (by simpa using h3)]
theorem put_ins {nm : List Str} {l : List Dt} {vs : List V} {i : Nat} {f : Str} {y : V} {d : Dt} {k : List Dt → Prop} {C dx : Addr} (nd : nm.Nodup) (hf : nm[i]? = some f) (r : Reps K G l vs) (rd : Rep K G d y) (ln : l.length ≤ nm.length) (h : putAt l i d k) :
    ∃ l', k l' ∧ CRep K G (.ins C nm l') (.ins C dx (putF f y ((nm.take l.length).zip vs))) := by
  rcases putAt.of h with ⟨h1, h2⟩ | ⟨h1, h2⟩
  · refine ⟨_, h2, dx, vs.set i y, ?_, Reps.pair.mpr (Paired.setp rd i (Reps.pair.mp r)), by rw [List.length_set]; exact ln⟩
    rw [putF_zip_set nd hf h1 r.len.symm ln, List.length_set]
  · subst h1
    refine ⟨_, h2, dx, vs ++ [y], ?_, Reps.pair.mpr (Paired.app (Reps.pair.mp r) (.cons rd .nil)), ?_⟩
    · rw [putF_zip_new nd hf r.len.symm, List.length_append]
      rfl
    · have := (List.getElem?_eq_some_iff.mp hf).1
      rw [List.length_append]
      exact this
variable {Z H : Hp} {S : Store} {v : V} {d : Dt} {C : Addr} {nm : List Str}
theorem seeO_of (g : Good K Z H S) (r : Rep K (out H S Z) d v) {k : List Dt → Prop} (h : seeO C nm d S k) : ∃ a dx vs l, v = .ref a ∧ H a = some (.ins C dx ((nm.take l.length).zip vs)) ∧ Reps K (out H S Z) l vs ∧ l.length ≤ nm.length ∧ k l := by
  cases d with
  | obj C' nm' l =>
    obtain ⟨⟨rfl, rfl⟩, h⟩ := h
    obtain ⟨a, dx, vs, rfl, h1, h2, h3⟩ := r
    exact ⟨a, dx, vs, l, rfl, out_le h1, h2, h3, h⟩
  | ref a =>
    obtain ⟨l, h1, h2⟩ := h
    obtain ⟨o, h3, dx, vs, rfl, h4, h5⟩ := g.c a _ h1
    exact ⟨a, dx, vs, l, r, h3, h4, h5, h2⟩
  | _ => exact h.elim
theorem zip_len {l : List Dt} {vs : List V} (r : Reps K G l vs) (h : nm.length < 1000) : ((nm.take l.length).zip vs).length < 1000 := by
  rw [List.length_zip, List.length_take]
  omega
end
section
variable {X : Cx} {K : PySem.W.Frag} {E : XK} {e : DX} {pos pos' apos cpos p2 tpos : Pos} {a b c o ex value : Expr} {es rest : List Expr} {da db dc dw : DTE} {ta tb : DTT} {ts : DTA} {C : Addr} {nm : List Str} {f : Str} {i : Nat}
theorem de_fld (hK : X.K = K) (F : FldI K C nm f i) (ha : PE X o (tD K E e da)) (hb : attributeBase o f X.env (eval o X.env) = eval o X.env := by rfl) : PE X (.Attribute o f pos) (tD K E e (dFld C nm i da)) := PE.imp (pe_fldK hK ha hb) fun σ H Q h => by
  obtain ⟨δ, S, Z, q, t, h, k⟩ := h
  refine ⟨δ, S, Z, _, t, h, fun v x H1 S1 g1 x1 r1 h1 => ?_⟩
  obtain ⟨a, dx, vs, l, rfl, h2, h3, h4, h5⟩ := seeO_of g1 r1 h1
  obtain ⟨d, h6, h7⟩ := dAtN.get h5
  obtain ⟨v', h8, h9⟩ := Paired.get (Reps.pair.mp h3) h6
  exact ⟨a, C, dx, _, v', rfl, h2, F.cls, F.no, lookup_zip F.nd F.at' h8 (List.getElem?_eq_some_iff.mp h6).1, (k.ext x1).here g1 h7 h9⟩
theorem ds_fld (hK : X.K = K) (F : FldI K C nm f i) (ha : PE X o (tD K E e da)) (hv : PE X value (tD K E e dw)) (hs : swapsWith value (some (.Attribute o f pos')) pos.line X.env = pure false := by rfl) :
    PS X (.Assign [.Attribute o f pos'] value pos) (tDS K E e (dSetF C nm i da dw)) := PS.imp (ps_fldK hK ha hv hs) fun D σ H h => by
  obtain ⟨δ, S, Z, DD, t, h, k⟩ := h
  refine ⟨δ, S, Z, _, t, h, fun v x H1 S1 g1 x1 r1 h1 => ⟨δ, S1, Z, _, t.to g1 x1, h1, fun w y H2 S2 g2 x2 r2 h2 => ?_⟩⟩
  cases y with
  | ref a =>
    obtain ⟨l, h3, h4⟩ := h2
    obtain ⟨ob, h5, dx, vs, rfl, h6, h7⟩ := g2.c a _ h3
    obtain ⟨l', h8, h9⟩ := put_ins (C := C) (dx := dx) F.nd F.at' h6 (Rep.ext x2 _ _ r1) h7 h4
    refine ⟨a, C, dx, _, r2, h5, F.cls, F.no, zip_len h6 F.few, ?_⟩
    have xx := x1.trans x2
    exact k.nx _ _ _ _ (g2.mut h3 h9) (by rw [out_mut h3]; exact xx) (by rw [out_mut h3]; exact t.sl.ext xx) h8
  | _ => exact h2.elim
theorem ds_fldaug (hK : X.K = K) (F : FldI K C nm f i) {op : Operator} {dr : D2} (ho : InOp X op (rD K dr)) (ha : PE X o (tD K E e da)) (hv : PE X value (tD K E e dw)) :
    PS X (.AugAssign (.Attribute o f tpos) op value pos) (tDS K E e (dAugF C nm i dr da dw)) := PS.imp (ps_fldaugK hK ha hv ho) fun D σ H h => by
  obtain ⟨δ, S, Z, DD, t, h, k⟩ := h
  refine ⟨δ, S, Z, _, t, h, fun v x H1 S1 g1 x1 r1 h1 => ?_⟩
  cases x with
  | ref a =>
    obtain ⟨l, h3, h4⟩ := h1
    obtain ⟨ob, h5, dx, vs, rfl, h6, h7⟩ := g1.c a _ h3
    obtain ⟨d, h8, h9⟩ := dAtN.get h4
    obtain ⟨v', h10, h11⟩ := Paired.get (Reps.pair.mp h6) h8
    refine ⟨a, C, dx, _, v', r1, h5, F.cls, F.no, lookup_zip F.nd F.at' h10 (List.getElem?_eq_some_iff.mp h8).1, δ, S1, Z, _, t.to g1 x1, h9, fun w y H2 S2 g2 x2 r2 h12 => ?_⟩
    refine ⟨d, y, S2, Z, _, g2, Rep.ext x2 _ _ h11, r2, h12, fun u z H3 S3 g3 x3 r3 h13 => ?_⟩
    obtain ⟨l', h14, h15⟩ := h13
    obtain ⟨ob, h16, dx', vs', rfl, h17, h18⟩ := g3.c a _ h14
    obtain ⟨l'', h19, h20⟩ := put_ins (C := C) (dx := dx') F.nd F.at' h17 r3 h18 h15
    have xx := x1.trans (x2.trans x3)
    exact ⟨dx', _, h16, zip_len h17 F.few, k.nx _ _ _ _ (g3.mut h14 h20) (by rw [out_mut h14]; exact xx) (by rw [out_mut h14]; exact t.sl.ext xx) h19⟩
  | _ => exact h1.elim
end
/-! ## calls of what is built in -/
abbrev DCr := List Dt → Store → DK → Prop
def rDC (K : PySem.W.Frag) (dr : DCr) : List V → Hp → VK → Prop := fun xs H Q => ∃ ds S Z q, Good K Z H S ∧ Reps K (out H S Z) ds xs ∧ dr ds S q ∧ Ty K Z H S q Q
@[reducible] def dCB (dr : DCr) (t : DTA) : DTE := fun δ S q => t δ S fun xs S1 => dr xs S1 q
abbrev DMr := Dt → List Dt → Store → DK → Prop
def rDM (K : PySem.W.Frag) (dr : DMr) : V → List V → Hp → VK → Prop := fun x xs H Q => ∃ d ds S Z q, Good K Z H S ∧ Rep K (out H S Z) d x ∧ Reps K (out H S Z) ds xs ∧ dr d ds S q ∧ Ty K Z H S q Q
@[reducible] def isTx (x : Dt) (S : Store) (A : Prop) : Prop := match x with
  | .str _ => A
  | _ => False
@[reducible] def isLs (x : Dt) (S : Store) (A : Prop) : Prop := match x with
  | .lst _ => A
  | .ref a => ∃ l, S a = some (.lst l) ∧ A
  | _ => False
@[reducible] def dMt (is : Dt → Store → Prop → Prop) (dr : DMr) (o : DTE) (t : DTA) : DTE := fun δ S q => o δ S fun x S1 => is x S1 (t δ S1 fun xs S2 => dr x xs S2 q)
def IsTyp (K : PySem.W.Frag) (T : String) (is : Dt → Store → Prop → Prop) : Prop := ∀ (Z H : Hp) (S : Store) (d : Dt) (v : V) (A : Prop), Good K Z H S → Rep K (out H S Z) d v → is d S A → tyV K T v H ∧ A
theorem is_tx {K : PySem.W.Frag} : IsTyp K "str" isTx := fun Z H S d v A g r h => by
  cases d with
  | str z => rw [r.1]; exact ⟨rfl, h⟩
  | _ => exact h.elim
theorem is_ls {K : PySem.W.Frag} : IsTyp K "list" isLs := fun Z H S d v A g r h => by
  cases d with
  | lst l => obtain ⟨a, vs, rfl, h1, h2⟩ := r; exact ⟨.inl ⟨rfl, _, SqL.of (out_le h1)⟩, h⟩
  | ref a =>
    obtain ⟨l, h1, h2⟩ := h
    obtain ⟨o, h3, vs, rfl, h4⟩ := g.c a _ h1
    rw [show v = _ from r]
    exact ⟨.inl ⟨rfl, _, SqL.of h3⟩, h2⟩
  | _ => exact h.elim
section
variable {X : Cx} {K : PySem.W.Frag} {E : XK} {e : DX} {pos p apos cpos : Pos} {a o : Expr} {es : List Expr} {da : DTE} {ts : DTA} {dr : DCr} {dm : DMr} {x name : Str} {id T : String} {is : Dt → Store → Prop → Prop}
theorem tD_cb {σ : L2.St} {H : Hp} {Q : VK} (h : tD K E e (dCB dr ts) σ H Q) : tDA K E e ts σ H fun xs H1 => rDC K dr xs H1 Q := by
  obtain ⟨δ, S, Z, q, t, h, k⟩ := h
  exact ⟨δ, S, Z, _, t, h, fun vs ds H1 S1 g1 x1 r1 h1 => ⟨ds, S1, Z, q, g1, r1, h1, k.ext x1⟩⟩
theorem de_callB (hc : CallR X (.builtin id) (rDC K dr)) (hg : Gl X x) (hm : X.mg x = none) (hv : bootBuiltins x = some (.builtin id)) (ha : PA X (a :: es) (tDA K E e ts)) (hn : x ≠ "__name__" := by decide +kernel) (hd : (x == ("__debug__" : Str)) = false := by decide)
    (he : starEach (a :: es) X.env = (false, eval a X.env) :: starEach es X.env := by rfl) (hpl : (backTo pos (starEach es X.env)).any (·.1) = false := by rfl) :
    PE X (.Call (.Name x p) (a :: es) [] pos) (tD K E e (dCB dr ts)) := PE.imp (pe_callB hc hg hm hv ha hn hd he hpl) fun σ H Q h => tD_cb h
theorem de_callTy (hc : CallR X (.type T) (rDC K dr)) (hg : Gl X x) (hm : X.mg x = none) (hv : bootBuiltins x = some (.type T)) (ha : PA X (a :: es) (tDA K E e ts)) (hn : x ≠ "__name__" := by decide +kernel) (hd : (x == ("__debug__" : Str)) = false := by decide)
    (he : starEach (a :: es) X.env = (false, eval a X.env) :: starEach es X.env := by rfl) (hpl : (backTo pos (starEach es X.env)).any (·.1) = false := by rfl) :
    PE X (.Call (.Name x p) (a :: es) [] pos) (tD K E e (dCB dr ts)) := PE.imp (pe_callTy hc hg hm hv ha hn hd he hpl) fun σ H Q h => tD_cb h
theorem tD_mt (hi : IsTyp K T is) {σ : L2.St} {H : Hp} {Q : VK} (h : tD K E e (dMt is dm da ts) σ H Q) : tBM K T (rDM K dm) (tD K E e da) (tDA K E e ts) σ H Q := by
  obtain ⟨δ, S, Z, q, t, h, k⟩ := h
  refine ⟨δ, S, Z, _, t, h, fun v x H1 S1 g1 x1 r1 h1 => ?_⟩
  obtain ⟨h2, h3⟩ := hi Z H1 S1 x v _ g1 r1 h1
  exact ⟨h2, δ, S1, Z, _, t.to g1 x1, h3, fun vs ds H2 S2 g2 x2 r2 h4 => ⟨x, ds, S2, Z, q, g2, Rep.ext x2 _ _ r1, r2, h4, k.ext (x1.trans x2)⟩⟩
theorem de_bm (hK : X.K = K) (hi : IsTyp K T is) (pa : PlainAttrs T) (slot : Slot T name id) (hty : typeOf (.builtin id) = pure (.type "method_descriptor")) (hm : MtR X id (rDM K dm)) (ho : PE X o (tD K E e da)) (ha : PA X (a :: es) (tDA K E e ts))
    (hbase : attributeBase o name X.env (eval o X.env) = eval o X.env := by rfl)
    (hfew : ((backTo cpos (starEach (a :: es) X.env)).all (fun x => !x.1) && (backToKw cpos (keywordEach [] X.env)).all (fun x => x.1.isSome)
      && decide ((a :: es).length + ([] : List Keyword).length + (if ([] : List Keyword).isEmpty then 0 else 1) < 30)) = true := by rfl)
    (hline : (apos.endLine == cpos.line) = true := by rfl) (hs : starEach (a :: es) X.env = (false, eval a X.env) :: starEach es X.env := by rfl) (hplain : (backTo cpos (starEach es X.env)).any (·.1) = false := by rfl) :
    PE X (.Call (.Attribute o name apos) (a :: es) [] cpos) (tD K E e (dMt is dm da ts)) := by
  subst hK
  exact PE.imp (pe_bm pa slot hty hm ho ha hbase hfew hline hs hplain) fun σ H Q h => tD_mt hi h
@[reducible] def dMt0 (is : Dt → Store → Prop → Prop) (dr : DMr) (o : DTE) : DTE := fun δ S q => o δ S fun x S1 => is x S1 (dr x [] S1 q)
theorem de_bm0 (hK : X.K = K) (hi : IsTyp K T is) (pa : PlainAttrs T) (slot : Slot T name id) (hty : typeOf (.builtin id) = pure (.type "method_descriptor")) (hm : MtR X id (rDM K dm)) (ho : PE X o (tD K E e da))
    (hbase : attributeBase o name X.env (eval o X.env) = eval o X.env := by rfl) (hline : (apos.endLine == cpos.line) = true := by rfl) : PE X (.Call (.Attribute o name apos) [] [] cpos) (tD K E e (dMt0 is dm da)) := by
  subst hK
  refine PE.imp (pe_bm0 pa slot hty hm ho hbase hline) fun σ H Q h => ?_
  obtain ⟨δ, S, Z, q, t, h, k⟩ := h
  refine ⟨δ, S, Z, _, t, h, fun v x H1 S1 g1 x1 r1 h1 => ?_⟩
  obtain ⟨h2, h3⟩ := hi Z H1 S1 x v _ g1 r1 h1
  exact ⟨h2, x, [], S1, Z, q, g1, r1, rfl, h3, k.ext x1⟩
end
end Dn

namespace Dn
open PySem PySem.Spec PyProof.Rows L2 Pr
/-! ## statements -/
@[reducible] def dSeq (t u : DTS) : DTS := fun D δ S => t { D with nx := u D } δ S
@[reducible] def dNext : DTS := fun D δ S => D.nx δ S
@[reducible] def dCont : DTS := fun D δ S => D.ct δ S
@[reducible] def dDrop (a : DTE) : DTS := fun D δ S => a δ S fun _ S1 => D.nx δ S1
@[reducible] def dRet (a : DTE) : DTS := fun D δ S => a δ S D.rt
@[reducible] def dIf (c : DTT) (t u : DTS) : DTS := fun D δ S => c δ S fun b S1 => Ift b (t D δ S1) (u D δ S1)
@[reducible] def dRaise (e : DX) (C : Addr) : DTS := fun _ _ S => e C S
abbrev DTG := Dt → DS → Store → (DS → Store → Prop) → Prop
abbrev DTGs := List Dt → DS → Store → (DS → Store → Prop) → Prop
@[reducible] def dName (i : Nat) : DTG := fun x δ S n => n (putS δ i x) S
@[reducible] def dGNil : DTGs := fun l δ S n => match l with
  | [] => n δ S
  | _ => False
@[reducible] def dGCons (t : DTG) (u : DTGs) : DTGs := fun l δ S n => match l with
  | d :: r => t d δ S fun δ' S' => u r δ' S' n
  | [] => False
@[reducible] def LenIs : List Dt → Nat → Prop → Prop
  | [], n, A => match n with
    | 0 => A
    | _ + 1 => False
  | _ :: l, n, A => match n with
    | 0 => False
    | k + 1 => LenIs l k A
theorem LenIs.len : ∀ {l : List Dt} {n : Nat} {A : Prop}, LenIs l n A → l.length = n ∧ A
  | [], 0, _, h => ⟨rfl, h⟩
  | _ :: l, n + 1, A, h => by
    obtain ⟨h1, h2⟩ := LenIs.len (l := l) (n := n) h
    exact ⟨congrArg (· + 1) h1, h2⟩
  | [], _ + 1, _, h => h.elim
  | _ :: _, 0, _, h => h.elim
@[reducible] def dGTup (n : Nat) (t : DTGs) : DTG := fun x δ S m => match x with
  | .tup l => LenIs l n (t l δ S m)
  | _ => False
/-- o[i] = .. -/
@[reducible] def dGSubL (o i : DTE) : DTG := fun v δ S n => o δ S fun x S1 => i δ S1 fun y S2 => match x, y with
  | .ref a, .int k => ∃ l, S2 a = some (.lst l) ∧ ∃ j, ixN l.length k = some j ∧ n δ (sput S2 a (.lst (l.set j v)))
  | _, _ => False
@[reducible] def dGSubD (o i : DTE) : DTG := fun v δ S n => o δ S fun x S1 => i δ S1 fun y S2 => match x with
  | .ref a => keyOf y fun k => ∃ l, S2 a = some (.dic l) ∧ l.length < sizeLine ∧ n δ (sput S2 a (.dic (kPut l k v)))
  | _ => False
@[reducible] def dAsg (a : DTE) (g : DTG) : DTS := fun D δ S => a δ S fun x S1 => g x δ S1 D.nx
def tDG (K : PySem.W.Frag) (E : XK) (e : DX) (g : DTG) : TG := fun v σ H N => ∃ x δ S Z n, At K E e Z H S σ δ ∧ Rep K (out H S Z) x v ∧ g x δ S n ∧ ∀ σ' δ' H' S', Good K Z H' S' → Ext (out H S Z) (out H' S' Z) → Slots K (out H' S' Z) σ' δ' → n δ' S' → N σ' H'
def tDGs (K : PySem.W.Frag) (E : XK) (e : DX) (g : DTGs) : TGs := fun vs σ H N => ∃ xs δ S Z n, At K E e Z H S σ δ ∧ Reps K (out H S Z) xs vs ∧ g xs δ S n ∧ ∀ σ' δ' H' S', Good K Z H' S' → Ext (out H S Z) (out H' S' Z) → Slots K (out H' S' Z) σ' δ' → n δ' S' → N σ' H'
/-! ## what is walked -/
abbrev DTL := DS → Store → (List Dt → (Store → Prop) → Store → Prop) → Prop
structure ItOk (K : PySem.W.Frag) (G : Hp) (J : It) (l : List Dt) (keep : Store → Prop) : Prop where
  go : ∀ Z i H S, Good K Z H S → Ext G (out H S Z) → keep S → i < l.length → J.go i H
  stop : ∀ Z H S, Good K Z H S → Ext G (out H S Z) → keep S → J.stop l.length H
  yld : ∀ Z i H S x H', Good K Z H S → Ext G (out H S Z) → keep S → i < l.length → J.yld i H x H' → ∃ d, l[i]? = some d ∧ Good K Z H' S ∧ Ext (out H S Z) (out H' S Z) ∧ Rep K (out H' S Z) d x
def tDI (K : PySem.W.Frag) (E : XK) (e : DX) (it : DTL) : TI := fun σ H R => ∃ δ S Z q, At K E e Z H S σ δ ∧ it δ S q ∧ ∀ l keep H' S' J, Good K Z H' S' → Ext (out H S Z) (out H' S' Z) → ItOk K (out H' S' Z) J l keep → q l keep S' → R J H'
@[reducible] def dItLs (a : DTE) : DTL := fun δ S q => a δ S fun x S1 => match x with
  | .lst l => q l (fun _ => True) S1
  | .ref a => ∃ l, S1 a = some (.lst l) ∧ q l (fun S => S a = some (.lst l)) S1
  | _ => False
def rangeD (lo : Int) (n : Nat) : List Dt := (List.range n).map fun (i : Nat) => Dt.int (lo + i)
@[reducible] def dItR1 (t : DTA) : DTL := fun δ S q => t δ S fun xs S1 => match xs with
  | [.int n] => (-(2 ^ 62) ≤ n ∧ n < 2 ^ 62) ∧ q (rangeD 0 n.toNat) (fun _ => True) S1
  | _ => False
def enumD (l : List Dt) : List Dt := (List.range l.length).zipWith (fun (i : Nat) d => Dt.tup [.int i, d]) l
@[reducible] def dItE (t : DTA) : DTL := fun δ S q => t δ S fun xs S1 => match xs with
  | [.lst l] => q (enumD l) (fun _ => True) S1
  | [.ref a] => ∃ l, S1 a = some (.lst l) ∧ q (enumD l) (fun S => S a = some (.lst l)) S1
  | _ => False
/-! ## loops -/
def dFor (it : DTL) (g : DTG) (b : DTS) : DTS := fun D δ S => it δ S fun l keep S1 => ∃ I : Nat → DS → Store → Prop, I 0 δ S1 ∧ (∀ i δ S, i ≤ l.length → I i δ S → keep S) ∧
  (∀ i d δ S, l[i]? = some d → I i δ S → g d δ S fun δ' S' => b { D with nx := I (i + 1), ct := I (i + 1), bk := D.nx } δ' S') ∧ ∀ δ S, I l.length δ S → D.nx δ S
def dWhile (c : DTT) (b : DTS) : DTS := fun D δ S => ∃ I : Nat → DS → Store → Prop, (∃ m, I m δ S) ∧ ∀ m δ S, I m δ S →
  c δ S fun k S1 => Ift k (b { D with nx := fun δ S => ∃ m', m' < m ∧ I m' δ S, ct := fun δ S => ∃ m', m' < m ∧ I m' δ S, bk := D.nx } δ S1) (D.nx δ S1)
/-! ## comprehensions -/
@[reducible] def wipesS : DS → List Nat → DS
  | δ, [] => δ
  | δ, v :: vs => wipeS (wipesS δ vs) v
@[reducible] def dYes : DTT := fun _ S q => q true S
def dLc (it : DTL) (g : DTG) (w : List Nat) (tt : DTT) (te : DTE) (q : List Dt → Store → Prop) : DS → Store → Prop := fun δ S => it δ S fun l keep S1 => l.length < sizeLine ∧ ∃ I : Nat → List Dt → Store → Prop, I 0 [] S1 ∧ (∀ i acc S, i ≤ l.length → I i acc S → keep S) ∧
  (∀ i d acc S, l[i]? = some d → I i acc S → g d (wipesS δ w) S fun δ' S' => tt δ' S' fun b S2 => Ift b (te δ' S2 fun y S3 => I (i + 1) (acc ++ [y]) S3) (I (i + 1) acc S2)) ∧ ∀ acc S, I l.length acc S → q acc S
@[reducible] def dLcF (it : DTL) (g : DTG) (w : List Nat) (tt : DTT) (te : DTE) : DTE := fun δ S q => dLc it g w tt te (fun l S' => q (.lst l) S') δ S
@[reducible] def dLcO (it : DTL) (g : DTG) (w : List Nat) (tt : DTT) (te : DTE) : DTE := fun δ S q => dLc it g w tt te (fun l S' => ∀ p, S' p = none → q (.ref p) (sput S' p (.lst l))) δ S
section
variable {X : Cx} {K : PySem.W.Frag} {E : XK} {e : DX} {pos pos' apos cpos p2 tpos : Pos} {a b c o ex value tg : Expr} {es rest : List Expr} {da db dc dw : DTE} {ta tb : DTT} {ts : DTA} {st : Stmt} {sts sts' : List Stmt} {dt du : DTS} {g : DTG} {gs : DTGs} {it : DTL}
theorem dss_cons (h1 : PS X st (tDS K E e dt)) (h2 : PSs X sts (tDS K E e du)) : PSs X (st :: sts) (tDS K E e (dSeq dt du)) := PSs.imp (pss_cons h1 h2) fun D σ H h => by
  obtain ⟨δ, S, Z, DD, t, h, k⟩ := h
  exact ⟨δ, S, Z, _, t, h, fun σ' δ' H' S' g x s h' => ⟨δ', S', Z, DD, ⟨g, s, t.lk.ext x⟩, h', k.ext x⟩, k.rt, k.bk, k.ct⟩
theorem dss_one (h1 : PS X st (tDS K E e dt)) : PSs X [st] (tDS K E e dt) := pss_one h1
theorem dss_nil : PSs X [] (tDS K E e dNext) := PSs.imp pss_nil fun D σ H h => by
  obtain ⟨δ, S, Z, DD, t, h, k⟩ := h
  exact k.nx _ _ _ _ t.good Ext.refl t.sl h
theorem ds_continue : PS X (.Continue pos) (tDS K E e dCont) := PS.imp ps_continue fun D σ H h => by
  obtain ⟨δ, S, Z, DD, t, h, k⟩ := h
  exact k.ct _ _ _ _ t.good Ext.refl t.sl h
theorem ds_expr (he : PE X ex (tD K E e da)) (hs : swapsWith ex none pos.line X.env = pure false := by rfl) : PS X (.Expr ex pos) (tDS K E e (dDrop da)) := PS.imp (ps_expr he hs) fun D σ H h => by
  obtain ⟨δ, S, Z, DD, t, h, k⟩ := h
  exact ⟨δ, S, Z, _, t, h, fun v x H1 S1 g1 x1 r1 h1 => k.nx _ _ _ _ g1 x1 (t.sl.ext x1) h1⟩
theorem ds_ret (he : PE X ex (tD K E e da)) : PS X (.Return (some ex) pos) (tDS K E e (dRet da)) := PS.imp (ps_ret he) fun D σ H h => by
  obtain ⟨δ, S, Z, DD, t, h, k⟩ := h
  exact ⟨δ, S, Z, _, t, h, fun v x H1 S1 g1 x1 r1 h1 => k.rt _ _ _ _ g1 x1 r1 h1⟩
theorem ds_if (hc : PT X c (tDT K E e ta)) (h1 : PSs X sts (tDS K E e dt)) (h2 : PSs X sts' (tDS K E e du)) : PS X (.If c sts sts' pos) (tDS K E e (dIf ta dt du)) := PS.imp (ps_if hc h1 h2) fun D σ H h => by
  obtain ⟨δ, S, Z, DD, t, h, k⟩ := h
  refine ⟨δ, S, Z, _, t, h, fun b H1 S1 g1 x1 h1 => ?_⟩
  cases b with
  | true => exact iteT ⟨δ, S1, Z, DD, t.to g1 x1, h1, k.ext x1⟩
  | false => exact iteF ⟨δ, S1, Z, DD, t.to g1 x1, h1, k.ext x1⟩
theorem ds_raise {W : WX} {B : String} {t : L2.St → Hp → XK → Prop} {C : Addr} (hc : X.calm = true) (tk : Takes X W) (hW : ∀ cls d σ H, E cls d H → W cls d σ H) (he : PMk X ex fun σ H Q => Q (.ref C) none H) : PS X (.Raise (some ex) none pos) (tDS K E e (dRaise e C)) := PS.imp (ps_raise hc tk he) fun D σ H h => by
  obtain ⟨δ, S, Z, DD, t, h, k⟩ := h
  exact hW _ _ _ _ (t.lk C H S t.good Ext.refl h)
/-! targets -/
theorem dg_name {i : Nat} {x : Str} (hN : X.N.Nodup) (hi : X.N[i]? = some x) (hx : Loc X.env.scope x) (hf : X.fn x = true ∨ X.env.scope.names.lookup x = some .local := by first | exact .inl rfl | exact .inr rfl | assumption) : PG X (.Name x pos) (tDG K E e (dName i)) := ⟨fun pins s σ H v u Q I r h => by
  refine (pg_name (pos := pos) hN hi hx hf).run pins s σ H v u Q I r ?_
  obtain ⟨x, δ, S, Z, n, t, rx, h, k⟩ := h
  exact k _ _ H S t.good Ext.refl (t.sl.put rx) h⟩
theorem dgs_nil : PGs X [] (tDGs K E e dGNil) := ⟨fun pins s σ H v u Q I r h => by
  refine pgs_nil.run pins s σ H v u Q I r ?_
  obtain ⟨x, δ, S, Z, n, t, rx, h, k⟩ := h
  cases x with
  | nil => exact ⟨rx, k σ δ H S t.good Ext.refl t.sl h⟩
  | cons _ _ => exact h.elim⟩
theorem dgs_cons (h1 : PG X a (tDG K E e g)) (h2 : PGs X es (tDGs K E e gs)) (hs : (assignEach (a :: es) X.env).map (·.2) = assign a X.env :: (assignEach es X.env).map (·.2) := by rfl) : PGs X (a :: es) (tDGs K E e (dGCons g gs)) := ⟨fun pins s σ H v u Q I r h => by
  refine (pgs_cons h1 h2 hs).run pins s σ H v u Q I r ?_
  obtain ⟨x, δ, S, Z, n, t, rx, h, k⟩ := h
  cases x with
  | nil => exact h.elim
  | cons d l =>
    obtain ⟨v1, vr, rfl, r1, r2⟩ := rx
    exact ⟨v1, vr, rfl, d, δ, S, Z, _, t, r1, h, fun σ' δ' H' S' g' x' s' h' => ⟨l, δ', S', Z, n, ⟨g', s', t.lk.ext x'⟩, Reps.ext x' _ _ r2, h', fun σ'' δ'' H'' S'' g'' x'' => k σ'' δ'' H'' S'' g'' (x'.trans x'')⟩⟩⟩
theorem dg_tup (hK : X.K = K) {k n : Nat} (hc : X.calm = true) (h : PGs X es (tDGs K E e gs)) (hn : (assignEach es X.env).length = n := by rfl) (hst : (assignEach es X.env).findIdx? (·.1) = none := by rfl) : PG X (.Tuple es k pos) (tDG K E e (dGTup n gs)) := ⟨fun pins s σ H v u Q I r h0 => by
  subst hK
  refine (pg_tup (k := k) (pos := pos) hc h hn hst).run pins s σ H v u Q I r ?_
  obtain ⟨x, δ, S, Z, m, t, rx, h1, k⟩ := h0
  cases x with
  | tup l =>
    obtain ⟨p, vs, rfl, hp, hl⟩ := rx
    obtain ⟨h2, h3⟩ := LenIs.len h1
    exact ⟨p, vs, rfl, SqT.out hp, by rw [← hl.len]; exact h2, l, δ, S, Z, m, t, hl, h3, k⟩
  | _ => exact h1.elim⟩
theorem dg_subL (ho : PE X o (tD K E e da)) (hi : PE X b (tD K E e db))
    (ha : ∀ v, assign (.Subscript o b pos) X.env v = (do
      let ov ← holding [v] (eval o X.env)
      let iv ← holding [v, ov] (eval b X.env)
      standAt pos
      holding [v, ov, iv] (setItem ov iv v)
      release [v, ov, iv] []) := by intro _; rfl) : PG X (.Subscript o b pos) (tDG K E e (dGSubL da db)) := ⟨fun pins s σ H v u Q I r h => by
  refine (pg_sub ho hi set_list ha).run pins s σ H v u Q I r ?_
  obtain ⟨x, δ, S, Z, n, t, rx, h, k⟩ := h
  refine ⟨δ, S, Z, _, t, h, fun v1 x1 H1 S1 g1 y1 r1 h1 => ⟨δ, S1, Z, _, t.to g1 y1, h1, fun v2 x2 H2 S2 g2 y2 r2 h2 => ?_⟩⟩
  cases x1 with
  | ref p =>
    cases x2 with
    | int j =>
      obtain ⟨l, h3, m, h4, h5⟩ := h2
      obtain ⟨ob, h6, vs, rfl, h7⟩ := g2.c p _ h3
      have cr : CRep K (out H2 S2 Z) (.lst (l.set m x)) (.lst (vs.set m v)) := ⟨_, rfl, Reps.pair.mpr (Paired.setp (Rep.ext (y1.trans y2) _ _ rx) m (Reps.pair.mp h7))⟩
      have xx := y1.trans y2
      exact ⟨p, vs, j, m, r1, r2, h6, by rw [← h7.len]; exact h4, k σ δ _ _ (g2.mut h3 cr) (by rw [out_mut h3]; exact xx) (by rw [out_mut h3]; exact t.sl.ext xx) h5⟩
    | _ => exact h2.elim
  | _ => exact h2.elim⟩
theorem dg_subD (hu : X.A.units + 1 < cLine) (ho : PE X o (tD K E e da)) (hi : PE X b (tD K E e db))
    (ha : ∀ v, assign (.Subscript o b pos) X.env v = (do
      let ov ← holding [v] (eval o X.env)
      let iv ← holding [v, ov] (eval b X.env)
      standAt pos
      holding [v, ov, iv] (setItem ov iv v)
      release [v, ov, iv] []) := by intro _; rfl) : PG X (.Subscript o b pos) (tDG K E e (dGSubD da db)) := ⟨fun pins s σ H v u Q I r h => by
  refine (pg_sub ho hi (set_dict hu) ha).run pins s σ H v u Q I r ?_
  obtain ⟨x, δ, S, Z, n, t, rx, h, k⟩ := h
  refine ⟨δ, S, Z, _, t, h, fun v1 x1 H1 S1 g1 y1 r1 h1 => ⟨δ, S1, Z, _, t.to g1 y1, h1, fun v2 x2 H2 S2 g2 y2 r2 h2 => ?_⟩⟩
  cases x1 with
  | ref p =>
    obtain ⟨key, rfl, ko, l, h3, h4, h5⟩ := keyOf_rep r2 h2
    obtain ⟨ob, h6, vs, rfl, h7⟩ := g2.c p _ h3
    have xx := y1.trans y2
    have cr : CRep K (out H2 S2 Z) (.dic (kPut l key x)) (.dK (putK vs key v)) := ⟨_, rfl, Repk.kr.mpr (KR.put (Repk.kr.mp h7) ko (Rep.ext xx _ _ rx))⟩
    exact ⟨p, _, r1, DPut.k h6 (by rw [← h7.len]; exact h4), k σ δ _ _ (g2.mut h3 cr) (by rw [out_mut h3]; exact xx) (by rw [out_mut h3]; exact t.sl.ext xx) h5⟩
  | _ => exact h2.elim⟩
theorem ds_asg (he : PE X ex (tD K E e da)) (hg : PG X tg (tDG K E e g)) (hs : swapsWithSole [tg] ex pos.line X.env = pure false := by rfl) (hw : swappedStores [tg] ex X.env = pure none := by rfl)
    (h1 : (assignEach [tg] X.env).map (·.2) = [assign tg X.env] := by rfl) : PS X (.Assign [tg] ex pos) (tDS K E e (dAsg da g)) := PS.imp (ps_asg he hg hs hw h1) fun D σ H h => by
  obtain ⟨δ, S, Z, DD, t, h, k⟩ := h
  exact ⟨δ, S, Z, _, t, h, fun v x H1 S1 g1 x1 r1 h1 => ⟨x, δ, S1, Z, _, t.to g1 x1, r1, h1, fun σ' δ' H' S' g' x' s' h' => k.nx σ' δ' H' S' g' (x1.trans x') s' h'⟩⟩
theorem ds_set {i : Nat} {x : Str} (hN : X.N.Nodup) (hi : X.N[i]? = some x) (hx : Loc X.env.scope x) (he : PE X ex (tD K E e da)) (hs : swapsWith ex (some (.Name x pos')) pos.line X.env = pure false := by rfl) (hf : X.fn x = true ∨ X.env.scope.names.lookup x = some .local := by first | exact .inl rfl | exact .inr rfl | assumption) :
    PS X (.Assign [.Name x pos'] ex pos) (tDS K E e (dAsg da (dName i))) := PS.imp (ps_set hN hi hx he hs hf) fun D σ H h => by
  obtain ⟨δ, S, Z, DD, t, h, k⟩ := h
  exact ⟨δ, S, Z, _, t, h, fun v x H1 S1 g1 x1 r1 h1 => k.nx _ _ _ _ g1 x1 ((t.sl.ext x1).put r1) h1⟩
/-- a, b = e1, e2 -/
@[reducible] def dPar (i j : Nat) (t : DTA) : DTS := fun D δ S => t δ S fun xs S1 => match xs with
  | [x, y] => D.nx (putS (putS δ i x) j y) S1
  | _ => False
theorem ds_par {i j : Nat} {x y : Str} {px py pt : Pos} {kt k2 pt2} (hc : X.calm = true) (hN : X.N.Nodup) (hi : X.N[i]? = some x) (hj : X.N[j]? = some y) (hij : i ≠ j)
    (hx : X.env.scope.names.lookup x = some .local) (hy : X.env.scope.names.lookup y = some .local) (ha : PA X [a, b] (tDA K E e ts))
    (hw : swappedStores [.Tuple [.Name x px, .Name y py] kt pt] (.Tuple [a, b] k2 pt2) X.env = pure (some [x, y]))
    (hs : swapsWithSole [.Tuple [.Name x px, .Name y py] kt pt] (.Tuple [a, b] k2 pt2) pos.line X.env = pure false := by rfl) :
    PS X (.Assign [.Tuple [.Name x px, .Name y py] kt pt] (.Tuple [a, b] k2 pt2) pos) (tDS K E e (dPar i j ts)) := PS.imp (ps_par hc hN hi hj hij hx hy ha hw hs) fun D σ H h => by
  obtain ⟨δ, S, Z, DD, t, h, k⟩ := h
  refine ⟨δ, S, Z, _, t, h, fun vs xs H1 S1 g1 x1 r1 h1 => ?_⟩
  match xs, h1 with
  | [x, y], h1 =>
    obtain ⟨v, _, rfl, rv, w, _, rfl, rw', rfl⟩ := r1
    exact ⟨v, w, rfl, k.nx _ _ _ _ g1 x1 (((t.sl.ext x1).put rv).put rw') h1⟩
/-- x op= e -/
@[reducible] def dAug (i : Nat) (dr : D2) (a : DTE) : DTS := fun D δ S => match look δ i with
  | some x => a δ S fun y S1 => dr x y S1 fun z S2 => D.nx (putS δ i z) S2
  | none => False
theorem ds_aug {i : Nat} {x : Str} {op : Operator} {dr : D2} (hN : X.N.Nodup) (hi : X.N[i]? = some x) (hx : Loc X.env.scope x) (he : PE X ex (tD K E e da)) (ho : PIp X op (rD K dr)) (hf : X.fn x = true ∨ X.env.scope.names.lookup x = some .local := by first | exact .inl rfl | exact .inr rfl | assumption) :
    PS X (.AugAssign (.Name x pos') op ex pos) (tDS K E e (dAug i dr da)) := PS.imp (ps_aug hN hi hx he ho hf) fun D σ H h => by
  obtain ⟨δ, S, Z, DD, t, h, k⟩ := h
  cases hl : look δ i with
  | none => simp only [dAug, hl] at h
  | some d =>
    simp only [dAug, hl] at h
    obtain ⟨v, h1, h2⟩ := t.sl.look hl
    refine ⟨v, h1, δ, S, Z, _, t, h, fun w y H1 S1 g1 x1 r1 h3 => ⟨d, y, S1, Z, _, g1, Rep.ext x1 _ _ h2, r1, h3, fun u z H2 S2 g2 x2 r2 h4 => ?_⟩⟩
    exact k.nx _ _ _ _ g2 (x1.trans x2) ((t.sl.ext (x1.trans x2)).put r2) h4
/-! loops -/
theorem ds_for {body : List Stmt} (hp : PassesOwn (model X.prog X.w) X.A X.env X.xe) (hc : X.calm = true) (hi : PI X tg ex (tDI K E e it)) (hg : PG X tg (tDG K E e g)) (hb : PSs X body (tDS K E e dt)) (hs : ∀ x, foldedSetIterable ex X.env x = pure x := by intro _; rfl) :
    PS X (.For tg ex body [] pos) (tDS K E e (dFor it g dt)) := PS.imp (ps_for hp hc hi hg hb hs) fun D σ H h => by
  obtain ⟨δ, S, Z, DD, t, h, k⟩ := h
  refine ⟨δ, S, Z, _, t, h, fun l keep H1 S1 J g1 x1 ok h1 => ?_⟩
  obtain ⟨I, h0, hk, hs, hd⟩ := h1
  have t1 := t.to g1 x1
  refine for_it (n := l.length) (G := fun H => ∃ S, Good K Z H S ∧ Ext (out H1 S1 Z) (out H S Z) ∧ keep S) (Y := fun i H x H' => J.yld i H x H') ⟨fun i H hi ⟨S, g, x, kp⟩ => ok.go Z i H S g x kp hi, fun H ⟨S, g, x, kp⟩ => ok.stop Z H S g x kp, fun i H x H' _ _ y => y⟩
    (fun i σ H => ∃ δ S, Good K Z H S ∧ Ext (out H1 S1 Z) (out H S Z) ∧ Slots K (out H S Z) σ δ ∧ I i δ S) ⟨δ, S1, g1, Ext.refl, t1.sl, h0⟩ (fun i σ H hi ⟨δ, S, g, x, s, q⟩ => ⟨S, g, x, hk i δ S hi q⟩) (fun i x σ H H' hi hh y => ?_) (fun σ H ⟨δ, S, g, x, s, q⟩ => k.nx _ _ _ _ g (x1.trans x) s (hd δ S q))
  obtain ⟨δ2, S2, g2, x2, s2, q2⟩ := hh
  obtain ⟨d, e1, g3, x3, r3⟩ := ok.yld Z i H S2 x H' g2 x2 (hk i δ2 S2 (Nat.le_of_lt hi) q2) hi y
  have x23 := x2.trans x3
  refine ⟨d, δ2, S2, Z, _, ⟨g3, s2.ext x3, t1.lk.ext x23⟩, r3, hs i d δ2 S2 e1 q2, fun σ' δ' H' S' g' x' s' h' => ⟨δ', S', Z, _, ⟨g', s', t1.lk.ext (x23.trans x')⟩, h', ?_⟩⟩
  have x4 := x23.trans x'
  exact ⟨fun σ δ H S g x s q => ⟨δ, S, g, x4.trans x, s, q⟩, fun v d H S g x r q => k.rt v d H S g (x1.trans (x4.trans x)) r q, fun σ δ H S g x s q => k.nx σ δ H S g (x1.trans (x4.trans x)) s q, fun σ δ H S g x s q => ⟨δ, S, g, x4.trans x, s, q⟩⟩
theorem ds_while {body : List Stmt} (hp : PassesOwn (model X.prog X.w) X.A X.env X.xe) (hc : PT X c (tDT K E e ta)) (hb : PSs X body (tDS K E e dt)) : PS X (.While c body [] pos) (tDS K E e (dWhile ta dt)) := PS.imp (ps_while hp hc hb) fun D σ H h => by
  obtain ⟨δ, S, Z, DD, t, ⟨I, ⟨m, h0⟩, hs⟩, k⟩ := h
  refine ⟨fun m σ H' => ∃ δ S', Good K Z H' S' ∧ Ext (out H S Z) (out H' S' Z) ∧ Slots K (out H' S' Z) σ δ ∧ I m δ S', ⟨m, δ, S, t.good, Ext.refl, t.sl, h0⟩, fun m σ H1 hh => ?_⟩
  obtain ⟨δ1, S1, g1, x1, s1, q1⟩ := hh
  refine ⟨δ1, S1, Z, _, ⟨g1, s1, t.lk.ext x1⟩, hs m δ1 S1 q1, fun b H2 S2 g2 x2 h2 => ?_⟩
  have x12 := x1.trans x2
  cases b with
  | false => exact iteF (k.nx _ _ _ _ g2 x12 (s1.ext x2) h2)
  | true =>
    refine iteT ⟨fun σ H' => ∃ m', m' < m ∧ ∃ δ S', Good K Z H' S' ∧ Ext (out H S Z) (out H' S' Z) ∧ Slots K (out H' S' Z) σ δ ∧ I m' δ S', fun σ' H' q => q, δ1, S2, Z, _, ⟨g2, s1.ext x2, t.lk.ext x12⟩, h2, ?_⟩
    exact ⟨fun σ δ H S g x s ⟨m', l, q⟩ => ⟨m', l, δ, S, g, x12.trans x, s, q⟩, fun v d H S g x r q => k.rt v d H S g (x12.trans x) r q, fun σ δ H S g x s q => k.nx σ δ H S g (x12.trans x) s q, fun σ δ H S g x s ⟨m', l, q⟩ => ⟨m', l, δ, S, g, x12.trans x, s, q⟩⟩
end
end Dn

namespace Dn
open PySem PySem.Spec PyProof.Rows L2 Pr
section
variable {K : PySem.W.Frag} {Z G : Hp}
theorem ok_lst {a : Addr} {vs : List V} {l : List Dt} (h : G a = some (.lst vs)) (r : Reps K G l vs) : ItOk K G (Itl K a) l (fun _ => True) :=
  ⟨fun Z i H S g x _ hi => by
    obtain ⟨v, hv⟩ : ∃ v, vs[i]? = some v := ⟨vs[i]'(by rw [← r.len]; exact hi), List.getElem?_eq_getElem _⟩
    exact ⟨vs, v, SqL.of (out_le (x.lst h)), hv⟩,
   fun Z H S g x _ => ⟨vs, SqL.of (out_le (x.lst h)), by rw [r.len]; exact Nat.le_refl _⟩,
   fun Z i H S x H' g e _ hi y => by
    obtain ⟨rfl, y⟩ := y
    have hv := y vs (SqL.of (out_le (e.lst h)))
    obtain ⟨d, h1, h2⟩ := Paired.get' (Reps.pair.mp r) hv
    exact ⟨d, h1, g, Ext.refl, Rep.ext e _ _ h2⟩⟩
/-- a list that is a cell, unchanged while it is walked -/
theorem ok_cell {a : Addr} {l : List Dt} : ItOk K G (Itl K a) l (fun S => S a = some (.lst l)) :=
  ⟨fun Z i H S g x kp hi => by
    obtain ⟨o, h1, vs, rfl, r⟩ := g.c a _ kp
    obtain ⟨v, hv⟩ : ∃ v, vs[i]? = some v := ⟨vs[i]'(by rw [← r.len]; exact hi), List.getElem?_eq_getElem _⟩
    exact ⟨vs, v, SqL.of h1, hv⟩,
   fun Z H S g x kp => by
    obtain ⟨o, h1, vs, rfl, r⟩ := g.c a _ kp
    exact ⟨vs, SqL.of h1, by rw [r.len]; exact Nat.le_refl _⟩,
   fun Z i H S x H' g e kp hi y => by
    obtain ⟨rfl, y⟩ := y
    obtain ⟨o, h1, vs, rfl, r⟩ := g.c a _ kp
    obtain ⟨d, h2, h3⟩ := Paired.get' (Reps.pair.mp r) (y vs (SqL.of h1))
    exact ⟨d, h2, g, Ext.refl, h3⟩⟩
theorem ok_range {lo : Int} {n : Nat} : ItOk K G (Itr lo n) (rangeD lo n) (fun _ => True) :=
  ⟨fun Z i H S g x _ hi => by
    unfold rangeD at hi
    rw [List.length_map, List.length_range] at hi
    exact hi,
   fun Z H S g x _ => by
    show n ≤ _
    unfold rangeD
    rw [List.length_map, List.length_range]
    exact Nat.le_refl _,
   fun Z i H S x H' g e _ hi y => by
    obtain ⟨rfl, rfl⟩ := y
    unfold rangeD at hi ⊢
    rw [List.length_map, List.length_range] at hi
    refine ⟨.int (lo + i), ?_, g, Ext.refl, rfl⟩
    rw [List.getElem?_map, List.getElem?_range hi]
    rfl⟩
theorem enumD_len (l : List Dt) : (enumD l).length = l.length := by unfold enumD; rw [List.length_zipWith, List.length_range, Nat.min_self]
theorem enumD_get (l : List Dt) (i : Nat) : (enumD l)[i]? = l[i]?.map fun d => .tup [.int i, d] := by
  unfold enumD
  rw [List.getElem?_zipWith]
  by_cases h : i < l.length
  · rw [List.getElem?_range h, List.getElem?_eq_getElem h]
    rfl
  · rw [List.getElem?_eq_none (by rw [List.length_range]; omega), List.getElem?_eq_none (l := l) (by omega)]
    rfl
/-- new pairs -/
theorem ok_pair {J : It} {l : List Dt} {keep : Store → Prop} {Gd : Hp → Prop} {f g : Nat → Option V} {dl dm : List Dt} (w : Walk J l.length Gd (YPair f g)) (hg : ∀ Z H S, Good K Z H S → Ext G (out H S Z) → keep S → Gd H)
    (hy : ∀ Z i H S x y, Good K Z H S → Ext G (out H S Z) → keep S → f i = some x → g i = some y → ∃ dx dy, l[i]? = some (.tup [dx, dy]) ∧ Rep K (out H S Z) dx x ∧ Rep K (out H S Z) dy y) : ItOk K G J l keep := by
  refine ⟨fun Z i H S g x k hi => w.goes i H hi (hg Z H S g x k), fun Z H S g x k => w.stops H (hg Z H S g x k), fun Z i H S x H' gd e k hi y => ?_⟩
  obtain ⟨T, u, v, rfl, nT, rfl, h1, h2⟩ := w.yields i H x H' hi (hg Z H S gd e k) y
  obtain ⟨dx, dy, h3, h4, h5⟩ := hy Z i H S u v gd e k h1 h2
  refine ⟨_, h3, gd.new nT, ext_new gd nT, T, [u, v], rfl, SqT.of (out_new gd nT), u, [v], rfl, Rep.ext (ext_new gd nT) _ _ h4, v, [], rfl, Rep.ext (ext_new gd nT) _ _ h5, rfl⟩
theorem ok_enum {a : Addr} {vs : List V} {l : List Dt} (h : G a = some (.lst vs)) (r : Reps K G l vs) : ItOk K G (Ite K a) (enumD l) (fun _ => True) := by
  refine ok_pair (dl := []) (dm := []) (Gd := fun H => SqL K H a vs) (f := fun i => some (.int (i : Nat))) (g := fun i => vs[i]?) (by rw [enumD_len, r.len]; exact walk_enum) (fun Z H S g x _ => SqL.of (out_le (x.lst h))) fun Z i H S x y g e _ h1 h2 => ?_
  cases h1
  obtain ⟨d, h3, h4⟩ := Paired.get' (Reps.pair.mp r) h2
  exact ⟨.int i, d, by rw [enumD_get, h3]; rfl, rfl, Rep.ext e _ _ h4⟩
theorem ok_enumC {a : Addr} {l : List Dt} {H0 : Hp} {S0 : Store} (g0 : Good K Z H0 S0) (h0 : S0 a = some (.lst l)) (e0 : G = out H0 S0 Z) {vs : List V} (hv : H0 a = some (.lst vs)) (hl : l.length = vs.length) : ItOk K G (Ite K a) (enumD l) (fun S => S a = some (.lst l)) := by
  refine ⟨fun Z i H S g x kp hi => ?_, fun Z H S g x kp => ?_, fun Z i H S x H' g e kp hi y => ?_⟩
  · obtain ⟨o, h1, ws, rfl, r⟩ := g.c a _ kp
    rw [enumD_len] at hi
    exact ⟨ws, ws[i]'(by rw [← r.len]; exact hi), SqL.of h1, List.getElem?_eq_getElem _⟩
  · obtain ⟨o, h1, ws, rfl, r⟩ := g.c a _ kp
    exact ⟨ws, SqL.of h1, by rw [enumD_len, r.len]; exact Nat.le_refl _⟩
  · obtain ⟨o, h1, ws, rfl, r⟩ := g.c a _ kp
    obtain ⟨T, u, rfl, nT, rfl, h2⟩ := y
    obtain ⟨d, h3, h4⟩ := Paired.get' (Reps.pair.mp r) (h2 ws (SqL.of h1))
    exact ⟨.tup [.int i, d], by rw [enumD_get, h3]; rfl, g.new nT, ext_new g nT, T, [.int i, u], rfl, SqT.of (out_new g nT), .int i, [u], rfl, rfl, u, [], rfl, Rep.ext (ext_new g nT) _ _ h4, rfl⟩
/-! a dict that is locked -/
end
section
variable {X : Cx} {K : PySem.W.Frag} {E : XK} {e : DX} {pos p apos cpos : Pos} {a b ex tg : Expr} {da db : DTE} {ts : DTA} {dt : DTS}
theorem di_lst (hK : X.K = K) (ha : PE X ex (tD K E e da)) : PI X tg ex (tDI K E e (dItLs da)) := ⟨fun pins s σ H R I h => by
  refine (pi_listK hK ha).run pins s σ H R I ?_
  obtain ⟨δ, S, Z, q, t, h, k⟩ := h
  refine ⟨δ, S, Z, _, t, h, fun v x H1 S1 g1 x1 r1 h1 => ?_⟩
  cases x with
  | lst l =>
    obtain ⟨a, vs, rfl, h2, h3⟩ := r1
    exact ⟨a, rfl, ⟨vs, SqL.of (out_le h2)⟩, k l _ H1 S1 _ g1 x1 (ok_lst h2 h3) h1⟩
  | ref a =>
    obtain ⟨l, h2, h3⟩ := h1
    obtain ⟨o, h4, vs, rfl, h5⟩ := g1.c a _ h2
    exact ⟨a, r1, ⟨vs, SqL.of h4⟩, k l _ H1 S1 _ g1 x1 ok_cell h3⟩
  | _ => exact h1.elim⟩
theorem reps1 {K : PySem.W.Frag} {G : Hp} {d : Dt} {vs : List V} (h : Reps K G [d] vs) : ∃ v, vs = [v] ∧ Rep K G d v := by
  obtain ⟨v, _, rfl, r, rfl⟩ := h
  exact ⟨v, rfl, r⟩
theorem reps2 {K : PySem.W.Frag} {G : Hp} {d c : Dt} {vs : List V} (h : Reps K G [d, c] vs) : ∃ v w, vs = [v, w] ∧ Rep K G d v ∧ Rep K G c w := by
  obtain ⟨v, _, rfl, r, w, _, rfl, r2, rfl⟩ := h
  exact ⟨v, w, rfl, r, r2⟩
theorem reps3 {K : PySem.W.Frag} {G : Hp} {d c f : Dt} {vs : List V} (h : Reps K G [d, c, f] vs) : ∃ v w u, vs = [v, w, u] ∧ Rep K G d v ∧ Rep K G c w ∧ Rep K G f u := by
  obtain ⟨v, _, rfl, r, w, _, rfl, r2, u, _, rfl, r3, rfl⟩ := h
  exact ⟨v, w, u, rfl, r, r2, r3⟩
theorem di_range1 (hg : Gl X "range") (hm : X.mg "range" = none) (ha : PA X [a] (tDA K E e ts)) (hs : starEach [a] X.env = [(false, eval a X.env)] := by rfl) : PI X tg (.Call (.Name "range" p) [a] [] pos) (tDI K E e (dItR1 ts)) := ⟨fun pins s σ H R I h => by
  refine (pi_range1 (pos := pos) hg hm ha hs).run pins s σ H R I ?_
  obtain ⟨δ, S, Z, q, t, h, k⟩ := h
  refine ⟨δ, S, Z, _, t, h, fun vs xs H1 S1 g1 x1 r1 h1 => ?_⟩
  match xs, h1 with
  | [.int n], h1 =>
    obtain ⟨v, rfl, rv⟩ := reps1 r1
    exact ⟨n, by rw [show v = _ from rv], h1.1.1, h1.1.2, k _ _ H1 S1 _ g1 x1 ok_range h1.2⟩⟩
theorem di_enum (hK : X.K = K) {elts : List Expr} {kk : Nat} {tpos : Pos} (hg : Gl X "enumerate") (hm : X.mg "enumerate" = none) (ha : PA X [a] (tDA K E e ts)) (hs : starEach [a] X.env = [(false, eval a X.env)] := by rfl) :
    PI X (.Tuple elts kk tpos) (.Call (.Name "enumerate" p) [a] [] pos) (tDI K E e (dItE ts)) := ⟨fun pins s σ H R I h => by
  subst hK
  refine (pi_enum (pos := pos) hg hm ha hs).run pins s σ H R I ?_
  obtain ⟨δ, S, Z, q, t, h, k⟩ := h
  refine ⟨δ, S, Z, _, t, h, fun vs xs H1 S1 g1 x1 r1 h1 => ?_⟩
  match xs, h1 with
  | [.lst l], h1 =>
    obtain ⟨v, rfl, rv⟩ := reps1 r1
    obtain ⟨a, ws, rfl, h2, h3⟩ := rv
    exact ⟨a, ws, rfl, SqL.of (out_le h2), k _ _ H1 S1 _ g1 x1 (ok_enum h2 h3) h1⟩
  | [.ref a], h1 =>
    obtain ⟨v, rfl, rv⟩ := reps1 r1
    obtain ⟨l, h2, h3⟩ := h1
    obtain ⟨o, h4, ws, rfl, h5⟩ := g1.c a _ h2
    exact ⟨a, ws, by rw [show v = _ from rv], SqL.of h4, k _ _ H1 S1 _ g1 x1 (ok_enumC g1 h2 rfl h4 h5.len) h3⟩⟩
/-! locks -/
end
end Dn

/-! comprehensions -/
namespace Dn
open PySem PySem.Spec PyProof.Rows L2 Pr
@[reducible] def snds : List (Str × Nat) → List Nat
  | [] => []
  | (_, n) :: r => n :: snds r
theorem snds_eq : ∀ l : List (Str × Nat), snds l = l.map (·.2)
  | [] => rfl
  | (_, n) :: r => by show n :: snds r = n :: r.map (·.2); rw [snds_eq r]
def noX : DX := fun _ _ => False
theorem lk_no {K : PySem.W.Frag} {E : XK} {Z G : Hp} : Lk K E noX Z G := fun _ _ _ _ _ h => h.elim
def tGw (K : PySem.W.Frag) (vs : List Nat) (g : DTG) : TG := fun v σ H N => ∃ x δ S Z n, Good K Z H S ∧ Slots K (out H S Z) σ δ ∧ Rep K (out H S Z) x v ∧ g x δ S n ∧
  ∀ σ' δ' H' S', wipe σ' vs = wipe σ vs → Good K Z H' S' → Ext (out H S Z) (out H' S' Z) → Slots K (out H' S' Z) σ' δ' → n δ' S' → N σ' H'
def tGws (K : PySem.W.Frag) (vs : List Nat) (g : DTGs) : TGs := fun us σ H N => ∃ xs δ S Z n, Good K Z H S ∧ Slots K (out H S Z) σ δ ∧ Reps K (out H S Z) xs us ∧ g xs δ S n ∧
  ∀ σ' δ' H' S', wipe σ' vs = wipe σ vs → Good K Z H' S' → Ext (out H S Z) (out H' S' Z) → Slots K (out H' S' Z) σ' δ' → n δ' S' → N σ' H'
theorem wipe_mem {σ : L2.St} {i : Nat} {x : Option V} : ∀ {vs : List Nat}, i ∈ vs → wipe (σ.set i x) vs = wipe σ vs
  | v :: vs, h => by
    show (wipe (σ.set i x) vs).set v none = (wipe σ vs).set v none
    have comm : ∀ ws : List Nat, wipe (σ.set i x) ws = (wipe σ ws).set i ((wipe (σ.set i x) ws)[i]?.getD none) := fun ws => by
      induction ws with
      | nil =>
        show σ.set i x = σ.set i (((σ.set i x)[i]?).getD none)
        by_cases hi : i < σ.length
        · rw [List.getElem?_set_self hi]; rfl
        · rw [List.set_eq_of_length_le (by omega), List.set_eq_of_length_le (by omega)]
      | cons w ws ih =>
        show (wipe (σ.set i x) ws).set w none = ((wipe σ ws).set w none).set i _
        by_cases hw : w = i
        · subst hw
          rw [ih, List.set_set, List.set_set]
          show _ = (wipe σ ws).set w (((wipe (σ.set w x) (w :: ws))[w]?).getD none)
          by_cases hl : w < (wipe σ ws).length
          · have : ((wipe (σ.set w x) (w :: ws))[w]?).getD none = none := by
              show (((wipe (σ.set w x) ws).set w none)[w]?).getD none = none
              rw [ih, List.set_set, List.getElem?_set_self hl]
              rfl
            rw [this]
          · rw [List.set_eq_of_length_le (by omega), List.set_eq_of_length_le (by omega)]
        · rw [ih, List.set_comm _ _ (Ne.symm hw)]
          congr 1
          show _ = ((wipe (σ.set i x) (w :: ws))[i]?).getD none
          show _ = (((wipe (σ.set i x) ws).set w none)[i]?).getD none
          rw [List.getElem?_set_ne hw]
    rcases List.mem_cons.mp h with rfl | h
    · rw [comm vs, List.set_set]
    · rw [wipe_mem h]
theorem slots_wipes {K : PySem.W.Frag} {G : Hp} {σ : L2.St} {δ : DS} (h : Slots K G σ δ) : ∀ vs : List Nat, Slots K G (wipe σ vs) (wipesS δ vs)
  | [] => h
  | v :: vs => Slots.wipe (slots_wipes h vs)
section
variable {X : Cx} {K : PySem.W.Frag} {E : XK} {e : DX} {pos pos' apos cpos p2 tpos : Pos} {a b c o ex value tg : Expr} {es rest ifs : List Expr} {da : DTE} {g : DTG} {gs : DTGs} {vs : List Nat}
theorem gw_name {i : Nat} {x : Str} (hN : X.N.Nodup) (hi : X.N[i]? = some x) (hx : Loc X.env.scope x) (hv : i ∈ vs := by decide) (hf : X.fn x = true ∨ X.env.scope.names.lookup x = some .local := by first | exact .inl rfl | exact .inr rfl | assumption) : PG X (.Name x pos) (tGw K vs (dName i)) := ⟨fun pins s σ H v u Q I r h => by
  refine (pg_name (pos := pos) hN hi hx hf).run pins s σ H v u Q I r ?_
  obtain ⟨x, δ, S, Z, n, gd, sl, rx, h, k⟩ := h
  exact k _ _ H S (wipe_mem hv) gd Ext.refl (sl.put rx) h⟩
theorem gws_nil : PGs X [] (tGws K vs dGNil) := ⟨fun pins s σ H v u Q I r h => by
  refine pgs_nil.run pins s σ H v u Q I r ?_
  obtain ⟨x, δ, S, Z, n, gd, sl, rx, h, k⟩ := h
  cases x with
  | nil => exact ⟨rx, k σ δ H S rfl gd Ext.refl sl h⟩
  | cons _ _ => exact h.elim⟩
theorem gws_cons (h1 : PG X a (tGw K vs g)) (h2 : PGs X es (tGws K vs gs)) (hs : (assignEach (a :: es) X.env).map (·.2) = assign a X.env :: (assignEach es X.env).map (·.2) := by rfl) : PGs X (a :: es) (tGws K vs (dGCons g gs)) := ⟨fun pins s σ H v u Q I r h => by
  refine (pgs_cons h1 h2 hs).run pins s σ H v u Q I r ?_
  obtain ⟨x, δ, S, Z, n, gd, sl, rx, h, k⟩ := h
  cases x with
  | nil => exact h.elim
  | cons d l =>
    obtain ⟨v1, vr, rfl, r1, r2⟩ := rx
    exact ⟨v1, vr, rfl, d, δ, S, Z, _, gd, sl, r1, h, fun σ' δ' H' S' w' g' x' s' h' => ⟨l, δ', S', Z, n, g', s', Reps.ext x' _ _ r2, h', fun σ'' δ'' H'' S'' w'' g'' x'' => k σ'' δ'' H'' S'' (w''.trans w') g'' (x'.trans x'')⟩⟩⟩
theorem gw_tup (hK : X.K = K) {k n : Nat} (hc : X.calm = true) (h : PGs X es (tGws K vs gs)) (hn : (assignEach es X.env).length = n := by rfl) (hst : (assignEach es X.env).findIdx? (·.1) = none := by rfl) : PG X (.Tuple es k pos) (tGw K vs (dGTup n gs)) := ⟨fun pins s σ H v u Q I r h0 => by
  subst hK
  refine (pg_tup (k := k) (pos := pos) hc h hn hst).run pins s σ H v u Q I r ?_
  obtain ⟨x, δ, S, Z, m, gd, sl, rx, h1, k⟩ := h0
  cases x with
  | tup l =>
    obtain ⟨p, ws, rfl, hp, hl⟩ := rx
    obtain ⟨h2, h3⟩ := LenIs.len h1
    exact ⟨p, ws, rfl, SqT.out hp, by rw [← hl.len]; exact h2, l, δ, S, Z, m, gd, sl, hl, h3, k⟩
  | _ => exact h1.elim⟩
theorem ts_nil : PTs X [] (tDT K E e dYes) := ⟨fun pins s σ H Q I h => by
  obtain ⟨δ, S, Z, q, t, h, k⟩ := h
  exact pts_nil.run pins s σ H Q I (k true H S t.good Ext.refl h)⟩
theorem ts_one {tt : DTT} (h : PT X c (tDT K E e tt)) : PTs X [c] (tDT K E e tt) := pts_one h
end
/-! the run -/
section
variable {K : PySem.W.Frag} {E : XK} {e : DX}
theorem hide_same {Z H : Hp} {S : Store} {p : Addr} {o : HO} (g : Good K (upd Z p o) H S) : upd H p o = H := by
  funext b
  by_cases hb : b = p
  · rw [hb, upd_same, g.at]
  · rw [upd_ne hb]
theorem lc_run {it : DTL} {wi : TI} {g : DTG} {tt : DTT} {te : DTE} {vs : List Nat} {qL : List Dt → Store → Prop} {σ : L2.St} {H : Hp} {Q : VK} {δ : DS} {S : Store} {Z : Hp}
    (t : At K E e Z H S σ δ) (h : dLc it g vs tt te qL δ S)
    (fin : ∀ D accV acc H' S', Z D = none → Good K (upd Z D (.lst accV)) H' S' → Ext (out H S Z) (out H' S' (upd Z D (.lst accV))) → Reps K (out H' S' (upd Z D (.lst accV))) acc accV → qL acc S' → Q (.ref D) H') :
    tLc (tDI K E e it) (tGw K vs g) (tDT K E0 noX tt) (tD K E0 noX te) vs σ H Q := by
  refine ⟨δ, S, Z, _, t, h, fun l keep H1 S1 J g1 x1 ok h1 => ?_⟩
  obtain ⟨hl, I, h0, hk, hs, hd⟩ := h1
  intro D nD
  have nZ := g1.nZ nD
  have sl1 := t.sl.ext x1
  refine lc_it (n := l.length) (G := fun H => ∃ Z' S, Good K Z' H S ∧ Ext (out H1 S1 Z) (out H S Z') ∧ keep S) (Y := fun i H x H' => J.yld i H x H') (Qd := fun H => Q (.ref D) H)
    ⟨fun i H hi ⟨Z', S, g, x, kp⟩ => ok.go Z' i H S g x kp hi, fun H ⟨Z', S, g, x, kp⟩ => ok.stop Z' H S g x kp, fun i H x H' _ _ y => y⟩
    (fun i H => ∃ S acc accV, Good K (upd Z D (.lst accV)) H S ∧ Ext (out H1 S1 Z) (out H S (upd Z D (.lst accV))) ∧ Reps K (out H S (upd Z D (.lst accV))) acc accV ∧ acc.length ≤ i ∧ I i acc S)
    ⟨S1, [], [], g1.hide nD, by rw [hide_out g1 nD]; exact Ext.refl, rfl, Nat.le_refl _, h0⟩
    (fun i H hi ⟨S, acc, accV, g, x, r, n, q⟩ => ⟨_, S, g, x, hk i acc S hi q⟩) (fun i x H H' hi hh y => ?_)
    (fun H ⟨S, acc, accV, g, x, r, n, q⟩ => fin D accV acc H S nZ g (x1.trans x) r (hd acc S q))
  obtain ⟨S2, acc, accV, g2, x2, r2, n2, q2⟩ := hh
  obtain ⟨d, e1, g3, x3, r3⟩ := ok.yld _ i H S2 x H' g2 x2 (hk i acc S2 (Nat.le_of_lt hi) q2) hi y
  have x23 := x2.trans x3
  refine ⟨d, _, S2, _, _, g3, slots_wipes (sl1.ext x23) vs, r3, hs i d acc S2 e1 q2, fun σ' δ' H4 S4 w4 g4 x4 s4 h4 => ?_⟩
  refine ⟨by rw [w4, wipe_wipe], δ', S4, _, _, ⟨g4, s4, lk_no⟩, h4, fun b H5 S5 g5 x5 h5 => ?_⟩
  have x45 := x4.trans x5
  cases b with
  | false => exact iteF ⟨S5, acc, accV, g5, x23.trans x45, Reps.ext (x3.trans x45) _ _ r2, Nat.le_succ_of_le n2, h5⟩
  | true =>
    refine iteT ⟨δ', S5, _, _, ⟨g5, s4.ext x5, lk_no⟩, h5, fun v z H6 S6 g6 x6 r6 h6 => ?_⟩
    have x46 := x45.trans x6
    have r7 := Reps.ext (x3.trans x46) _ _ r2
    refine ⟨accV, g6.at, by rw [← r7.len]; omega, S6, acc ++ [z], accV ++ [v], g6.rehide, ?_, ?_, by rw [List.length_append]; exact Nat.succ_le_succ n2, h6⟩
    · rw [rehide_out (o := .lst accV)]
      exact x23.trans x46
    · rw [rehide_out (o := .lst accV)]
      exact Reps.pair.mpr (Paired.app (Reps.pair.mp r7) (.cons r6 .nil))
where
  wipe_wipe {σ : L2.St} {vs : List Nat} : wipe (wipe σ vs) vs = wipe σ vs := by
    have go : ∀ ws : List Nat, (∀ v ∈ ws, v ∈ vs) → wipe (wipe σ ws) vs = wipe σ vs := fun ws => by
      induction ws with
      | nil => intro _; rfl
      | cons v ws ih =>
        intro h
        show wipe ((wipe σ ws).set v none) vs = _
        rw [wipe_mem (h v List.mem_cons_self)]
        exact ih fun w hw => h w (List.mem_cons_of_mem _ hw)
    exact go vs fun _ h => h
theorem lc_frozen {it : DTL} {g : DTG} {tt : DTT} {te : DTE} {vs : List Nat} {σ : L2.St} {H : Hp} {Q : VK} (h : tD K E e (dLcF it g vs tt te) σ H Q) : tLc (tDI K E e it) (tGw K vs g) (tDT K E0 noX tt) (tD K E0 noX te) vs σ H Q := by
  obtain ⟨δ, S, Z, q, t, h, k⟩ := h
  refine lc_run (wi := tDI K E e it) t h fun D accV acc H' S' nz g x r q' => ?_
  refine k _ (.lst acc) _ S' (g.bare nz) (x.trans (bare_ext g nz)) ⟨D, accV, rfl, ?_, Reps.ext (bare_ext g nz) _ _ r⟩ q'
  rw [out_of g.noS nz]
  exact g.at
theorem lc_owned {it : DTL} {g : DTG} {tt : DTT} {te : DTE} {vs : List Nat} {σ : L2.St} {H : Hp} {Q : VK} (h : tD K E e (dLcO it g vs tt te) σ H Q) : tLc (tDI K E e it) (tGw K vs g) (tDT K E0 noX tt) (tD K E0 noX te) vs σ H Q := by
  obtain ⟨δ, S, Z, q, t, h, k⟩ := h
  refine lc_run (wi := tDI K E e it) t h fun D accV acc H' S' nz g x r q' => ?_
  have cr : CRep K (out H' S' (upd Z D (.lst accV))) (.lst acc) (.lst accV) := ⟨accV, rfl, r⟩
  have g2 := g.shownO nz cr
  have o2 := showO_out (o' := .lst accV) g nz (c := .lst acc)
  rw [hide_same g] at g2 o2
  exact k _ (.ref D) _ _ g2 (by rw [o2]; exact x) rfl (q' D g.noS)
end
section
variable {X : Cx} {K : PySem.W.Frag} {E : XK} {e : DX} {pos spos py : Pos} {elt tg iter : Expr} {ifs : List Expr} {scope : Scope} {own : List (Str × Nat)} {it : DTL} {g : DTG} {tt : DTT} {te : DTE}
theorem de_lc (calm : X.calm = true) (hN : X.N.Nodup) (hi : PI X tg iter (tDI K E e it)) (ok : BlkOk X.N X.env.scope scope own)
    (hg : ∀ (s : Shared) (H : Hp) (C : Addr) (cl : List (Str × Addr)) (fp : List Addr), PG (X.blk s H scope (compEnvC scope cl C X.env) fp) tg (tGw K (snds own) g))
    (ht : ∀ (s : Shared) (H : Hp) (C : Addr) (cl : List (Str × Addr)) (fp : List Addr), PTs (X.blk s H scope (compEnvC scope cl C X.env) fp) ifs (tDT K E0 noX tt))
    (he : ∀ (s : Shared) (H : Hp) (C : Addr) (cl : List (Str × Addr)) (fp : List Addr), PE (X.blk s H scope (compEnvC scope cl C X.env) fp) elt (tD K E0 noX te)) (hs : ∀ x, foldedSetIterable iter X.env x = pure x := by intro _; rfl) :
    PE X (.ListComp elt [⟨tg, iter, ifs, 0⟩] scope pos) (tD K E e (dLcF it g (snds own) tt te)) := by
  rw [snds_eq] at hg ⊢
  exact PE.imp (pe_lc calm hN hi ok hg ht he hs) fun σ H Q h => lc_frozen h
theorem de_lcO (calm : X.calm = true) (hN : X.N.Nodup) (hi : PI X tg iter (tDI K E e it)) (ok : BlkOk X.N X.env.scope scope own)
    (hg : ∀ (s : Shared) (H : Hp) (C : Addr) (cl : List (Str × Addr)) (fp : List Addr), PG (X.blk s H scope (compEnvC scope cl C X.env) fp) tg (tGw K (snds own) g))
    (ht : ∀ (s : Shared) (H : Hp) (C : Addr) (cl : List (Str × Addr)) (fp : List Addr), PTs (X.blk s H scope (compEnvC scope cl C X.env) fp) ifs (tDT K E0 noX tt))
    (he : ∀ (s : Shared) (H : Hp) (C : Addr) (cl : List (Str × Addr)) (fp : List Addr), PE (X.blk s H scope (compEnvC scope cl C X.env) fp) elt (tD K E0 noX te)) (hs : ∀ x, foldedSetIterable iter X.env x = pure x := by intro _; rfl) :
    PE X (.ListComp elt [⟨tg, iter, ifs, 0⟩] scope pos) (tD K E e (dLcO it g (snds own) tt te)) := by
  rw [snds_eq] at hg ⊢
  exact PE.imp (pe_lc calm hN hi ok hg ht he hs) fun σ H Q h => lc_owned h
/-- y = [..], a local name -/
theorem ds_setLc {i : Nat} {y : Str} (calm : X.calm = true) (hN : X.N.Nodup) (hy : X.N[i]? = some y) (hyl : X.env.scope.names.lookup y = some .local) (hsw : swapsWith (.ListComp elt [⟨tg, iter, ifs, 0⟩] scope pos) (some (.Name y py)) spos.line X.env = pure true)
    (hi : PI X tg iter (tDI K E e it)) (ok : BlkOk X.N X.env.scope scope own)
    (hg : ∀ (s : Shared) (H : Hp) (C : Addr) (cl : List (Str × Addr)) (fp : List Addr), PG (X.blk s H scope (compEnvC scope cl C X.env) fp) tg (tGw K (snds own) g))
    (ht : ∀ (s : Shared) (H : Hp) (C : Addr) (cl : List (Str × Addr)) (fp : List Addr), PTs (X.blk s H scope (compEnvC scope cl C X.env) fp) ifs (tDT K E0 noX tt))
    (he : ∀ (s : Shared) (H : Hp) (C : Addr) (cl : List (Str × Addr)) (fp : List Addr), PE (X.blk s H scope (compEnvC scope cl C X.env) fp) elt (tD K E0 noX te)) (hs : ∀ x, foldedSetIterable iter X.env x = pure x := by intro _; rfl) :
    PS X (.Assign [.Name y py] (.ListComp elt [⟨tg, iter, ifs, 0⟩] scope pos) spos) (tDS K E e (dAsg (dLcF it g (snds own) tt te) (dName i))) := by
  rw [snds_eq] at hg ⊢
  exact PS.imp (ps_setLc calm hN hy hyl hsw hi ok hg ht he hs) fun D σ H h => by
    obtain ⟨δ, S, Z, DD, t, h, k⟩ := h
    exact lc_frozen ⟨δ, S, Z, _, t, h, fun v x H1 S1 g1 x1 r1 h1 => k.nx _ _ _ _ g1 x1 ((t.sl.ext x1).put r1) h1⟩
end
end Dn

/-! defs, methods, classes by their promises over deep values -/
namespace Dn
open PySem PySem.Spec PyProof.Rows L2 Pr
abbrev DSp := List Dt → Store → DK → DX → Prop
def spD (K : PySem.W.Frag) (c : DSp) : Sp := fun vs H Q E => ∃ ds S Z q e, Good K Z H S ∧ Reps K (out H S Z) ds vs ∧ Lk K E e Z (out H S Z) ∧ c ds S q e ∧ Ty K Z H S q Q
@[reducible] def appD : List Dt → List Dt → List Dt
  | [], m => m
  | x :: l, m => x :: appD l m
theorem appD_eq : ∀ l m : List Dt, appD l m = l ++ m
  | [], _ => rfl
  | x :: l, m => by show x :: appD l m = x :: (l ++ m); rw [appD_eq l m]
@[reducible] def startD : Nat → List Dt → DS
  | 0, _ => []
  | n + 1, [] => none :: startD n []
  | n + 1, d :: l => some d :: startD n l
/-- what defaults are worth, everywhere -/
def Dfl (K : PySem.W.Frag) (dds : List Dt) (dvs : List V) : Prop := ∀ G, Reps K G dds dvs
@[reducible] def dCall (c : DSp) (dds : List Dt) (e : DX) (t : DTA) : DTE := fun δ S q => t δ S fun ds S1 => c (appD ds dds) S1 q e
@[reducible] def isIns (C : Addr) (nm : List Str) (x : Dt) (S : Store) (A : Prop) : Prop := match x with
  | .obj C' nm' _ => (C' = C ∧ nm' = nm) ∧ A
  | .ref a => ∃ l, S a = some (.ins C nm l) ∧ A
  | _ => False
@[reducible] def dMeth (C : Addr) (nm : List Str) (c : DSp) (dds : List Dt) (e : DX) (o : DTE) (t : DTA) : DTE := fun δ S q => o δ S fun x S1 => isIns C nm x S1 (t δ S1 fun ds S2 => c (x :: appD ds dds) S2 q e)
@[reducible] def dMake (C : Addr) (nm : List Str) (c : DSp) (dds : List Dt) (e : DX) (t : DTA) : DTE := fun δ S q => t δ S fun ds S1 => ∀ p, S1 p = none → c (.ref p :: appD ds dds) (sput S1 p (.ins C nm [])) (fun v S2 => v = .non ∧ q (.ref p) S2) e
section
variable {P : Program} {w : World} {K : PySem.W.Frag} {mg : Str → Option Value} {base : Heap} {x qual : Str} {params : Arguments} {body : List Stmt} {scope : Scope} {dvs : List V} {f : Addr} {fd : FuncData} {N ps : List Str} {k : Nat}
theorem start_slots {G : Hp} : ∀ (N : List Str) (ds : List Dt) (vs : List V), Reps K G ds vs → vs.length ≤ N.length → Slots K G (start N vs) (startD N.length ds) := fun N ds vs => by
  have go : ∀ (n : Nat) (ds : List Dt) (vs : List V), Reps K G ds vs → vs.length ≤ n → Slots K G (vs.map some ++ List.replicate (n - vs.length) none) (startD n ds) := fun n => by
    induction n with
    | zero =>
      intro ds vs r h
      have : vs = [] := List.eq_nil_of_length_eq_zero (by omega)
      subst this
      exact .nil
    | succ n ih =>
      intro ds vs r h
      cases ds with
      | nil =>
        have : vs = [] := r
        subst this
        have := ih [] [] rfl (Nat.zero_le _)
        show Slots K G (List.replicate (n + 1) none) (none :: startD n [])
        exact .cons (fun x hx => by cases hx) (by simpa [Slots] using this)
      | cons d l =>
        obtain ⟨v, vr, rfl, r1, r2⟩ := r
        have := ih l vr r2 (by simpa using h)
        show Slots K G (some v :: (vr.map some ++ List.replicate (n + 1 - (vr.length + 1)) none)) (some d :: startD n l)
        rw [show n + 1 - (vr.length + 1) = n - vr.length by omega]
        exact .cons (fun x hx => by cases hx; exact ⟨v, rfl, r1⟩) this
  exact go N.length ds vs
/-- THE RULE for a def -/
theorem dfn {c : DSp} {kws : List (Str × V)} (n : Nat) (F : FunD K x qual params body scope dvs kws f fd) (S : FnScope N ps scope) (len : ∀ ds S q e, c ds S q e → ds.length = ps.length) (hn : N.length = n := by rfl)
    (run : ∀ (cdv : Value) (A : Around) (outer : List Env) (s : Shared) (H : Hp) (E : XK) (e : DX), Room k (A.deeper (envOfC qual scope s.heap.objs.size f cdv)) →
      ∃ t, PSs (cxOf (L2.CX P w) P w K mg base N qual scope f cdv A outer s H E) body (tDS K E e t) ∧ ∀ ds S q, c ds S q e → t { nx := fun _ S => q .non S, rt := q } (startD n ds) S) : FnOk P w K mg base (L2.CX P w) (k + 1) f fd ps (spD K c) := by
  refine F.ok S (fun vs H Q E h => ?_) (fun cdv A outer s H vs Q E hr h => ?_)
  · obtain ⟨ds, S, Z, q, e, g, r, l, h, k⟩ := h
    rw [← r.len]
    exact len ds S q e h
  · obtain ⟨ds, S', Z, q, e, g, r, l, h, kk⟩ := h
    obtain ⟨t, p, h2⟩ := run cdv A outer s H E e hr
    refine ⟨_, p, _, S', Z, _, ⟨g, ?_, l⟩, h2 ds S' q h, ?_⟩
    · rw [← hn]
      refine start_slots N ds vs r ?_
      rw [← r.len, len ds S' q e h]
      have := congrArg List.length S.pre
      rw [List.length_take] at this
      omega
    · exact ⟨fun σ δ H S g x s q => kk .non .non H S g x rfl q, fun v d H S g x r q => kk v d H S g x r q, fun _ _ _ _ _ _ _ h => h, fun _ _ _ _ _ _ _ h => h⟩
end
section
variable {X : Cx} {K : PySem.W.Frag} {E : XK} {e : DX} {k j : Nat} {x m : Str} {C : Addr} {c : DSp} {dvs : List V} {dds : List Dt} {p pos apos : Pos} {a o : Expr} {es : List Expr} {ts : DTA} {da : DTE} {nm : List Str}
theorem tD_call (hd : Dfl K dds dvs) {σ : L2.St} {H : Hp} {Q : VK} (h : tD K E e (dCall c dds e ts) σ H Q) : tCall (spD K c) dvs E (tDA K E e ts) σ H Q := by
  obtain ⟨δ, S, Z, q, t, h, k⟩ := h
  refine ⟨δ, S, Z, _, t, h, fun vs ds H1 S1 g1 x1 r1 h1 => ⟨appD ds dds, S1, Z, q, e, g1, ?_, t.lk.ext x1, h1, k.ext x1⟩⟩
  rw [appD_eq]
  exact Reps.pair.mpr (Paired.app (Reps.pair.mp r1) (Reps.pair.mp (hd _)))
theorem dfl_nil : Dfl K [] [] := fun _ => rfl
theorem de_call (hK : X.K = K) (cl : CalX X.prog X.w K X.mg X.base k x (spD K c) dvs) (hd : Dfl K dds dvs) (hr : Room j X.A) (hk : k ≤ j) (hg : Gl X x) (hx : Passes (L2.CX X.prog X.w) X E) (ha : PA X (a :: es) (tDA K E e ts)) (hdb : (x == ("__debug__" : Str)) = false := by decide)
    (he : starEach (a :: es) X.env = (false, eval a X.env) :: starEach es X.env := by rfl) (hpl : (backTo pos (starEach es X.env)).any (·.1) = false := by rfl) : PE X (.Call (.Name x p) (a :: es) [] pos) (tD K E e (dCall c dds e ts)) := by
  subst hK
  exact PE.imp (pe_cX cl hr hk hg hx ha hdb he hpl) fun σ H Q h => tD_call hd h
theorem ins_of {Z H : Hp} {S : Store} {v : V} {d : Dt} (g : Good K Z H S) (r : Rep K (out H S Z) d v) (hm : m ∉ nm) {A : Prop} (h : isIns C nm d S A) : (∃ a dx fs, v = .ref a ∧ H a = some (.ins C dx fs) ∧ fs.lookup m = none) ∧ A := by
  have look : ∀ (n : Nat) (vs : List V), ((nm.take n).zip vs).lookup m = none := fun n vs => by
    rw [List.lookup_eq_none_iff]
    intro p hp
    have := List.of_mem_zip hp
    have h1 : p.1 ≠ m := fun z => hm (z ▸ List.mem_of_mem_take this.1)
    simpa using Ne.symm h1
  cases d with
  | obj C' nm' l =>
    obtain ⟨⟨rfl, rfl⟩, h⟩ := h
    obtain ⟨a, dx, vs, rfl, h1, _⟩ := r
    exact ⟨⟨a, dx, _, rfl, out_le h1, look _ _⟩, h⟩
  | ref a =>
    obtain ⟨l, h1, h2⟩ := h
    obtain ⟨ob, h3, dx, vs, rfl, _⟩ := g.c a _ h1
    exact ⟨⟨a, dx, _, r, h3, look _ _⟩, h2⟩
  | _ => exact h.elim
theorem de_meth (hK : X.K = K) {pl : Sem Bool} (cl : MetX X.prog X.w K X.mg X.base k C m (spD K c) dvs) (hm : m ∉ nm) (hd : Dfl K dds dvs) (hr : Room j X.A) (hk : k ≤ j) (hx : Passes (L2.CX X.prog X.w) X E) (ho : PE X o (tD K E e da)) (ha : PA X (a :: es) (tDA K E e ts))
    (hst : starEach (a :: es) X.env = (false, eval a X.env) :: starEach es X.env := by rfl) (hpl : (backTo pos (starEach es X.env)).any (·.1) = false := by rfl)
    (ht : eval (.Call (.Attribute o m apos) (a :: es) [] pos) X.env = (do
      let ov ← eval o X.env
      standAt apos.atName
      let (f, first) ← holding [ov] (getMethod ov m pl)
      callWith pos f first (backTo pos (starEach (a :: es) X.env)) (backToKw pos (keywordEach [] X.env))) := by rfl) :
    PE X (.Call (.Attribute o m apos) (a :: es) [] pos) (tD K E e (dMeth C nm c dds e da ts)) := by
  subst hK
  refine PE.imp (pe_mX cl hr hk hx ho ha hst hpl ht) fun σ H Q h => ?_
  obtain ⟨δ, S, Z, q, t, h, k⟩ := h
  refine ⟨δ, S, Z, _, t, h, fun v x H1 S1 g1 x1 r1 h1 => ?_⟩
  obtain ⟨⟨b, dx, fs, rfl, h2, h3⟩, h4⟩ := ins_of g1 r1 hm h1
  refine ⟨b, dx, fs, rfl, h2, h3, δ, S1, Z, _, t.to g1 x1, h4, fun vs ds H2 S2 g2 x2 r2 h5 => ⟨x :: appD ds dds, S2, Z, q, e, g2, ⟨.ref b, _, rfl, Rep.ext x2 _ _ r1, ?_⟩, t.lk.ext (x1.trans x2), h5, k.ext (x1.trans x2)⟩⟩
  rw [appD_eq]
  exact Reps.pair.mpr (Paired.app (Reps.pair.mp r2) (Reps.pair.mp (hd _)))
theorem de_meth0 (hK : X.K = K) {pl : Sem Bool} (cl : MetX X.prog X.w K X.mg X.base k C m (spD K c) dvs) (hm : m ∉ nm) (hd : Dfl K dds dvs) (hr : Room j X.A) (hk : k ≤ j) (hx : Passes (L2.CX X.prog X.w) X E) (ho : PE X o (tD K E e da))
    (ht : eval (.Call (.Attribute o m apos) [] [] pos) X.env = (do
      let ov ← eval o X.env
      standAt apos.atName
      let (f, first) ← holding [ov] (getMethod ov m pl)
      callWith pos f first (backTo pos (starEach [] X.env)) (backToKw pos (keywordEach [] X.env))) := by rfl) :
    PE X (.Call (.Attribute o m apos) [] [] pos) (tD K E e (dMeth C nm c dds e da dNil)) := by
  subst hK
  refine PE.imp (pe_mX0 cl hr hk hx ho ht) fun σ H Q h => ?_
  obtain ⟨δ, S, Z, q, t, h, k⟩ := h
  refine ⟨δ, S, Z, _, t, h, fun v x H1 S1 g1 x1 r1 h1 => ?_⟩
  obtain ⟨⟨b, dx, fs, rfl, h2, h3⟩, h4⟩ := ins_of g1 r1 hm h1
  exact ⟨b, dx, fs, rfl, h2, h3, x :: appD [] dds, S1, Z, q, e, g1, ⟨.ref b, _, rfl, r1, hd _⟩, t.lk.ext x1, h4, k.ext x1⟩
theorem tD_make (hd : Dfl K dds dvs) {σ : L2.St} {H : Hp} {Q : VK} (h : tD K E e (dMake C nm c dds e ts) σ H Q) : tMake C (spD K c) dvs E (tDA K E e ts) σ H Q := by
  obtain ⟨δ, S, Z, q, t, h, k⟩ := h
  refine ⟨δ, S, Z, _, t, h, fun vs ds H1 S1 g1 x1 r1 h1 p dx np ndx ne => ?_⟩
  have g2 := g1.new (o := .own p) ndx
  have np2 : upd H1 dx (.own p) p = none := by rw [upd_ne (Ne.symm ne)]; exact np
  have g3 : Good K Z (upd (upd H1 dx (.own p)) p (.ins C dx [])) (sput S1 p (.ins C nm [])) := g2.own np2 (c := .ins C nm []) ⟨dx, [], by simp, rfl, Nat.zero_le _⟩
  have o3 := out_own (o := .ins C dx []) g2 np2 (c := .ins C nm [])
  have x3 : Ext (out H1 S1 Z) (out (upd (upd H1 dx (.own p)) p (.ins C dx [])) (sput S1 p (.ins C nm [])) Z) := by rw [o3]; exact ext_new g1 ndx
  refine ⟨.ref p :: appD ds dds, _, Z, _, e, g3, ⟨.ref p, _, rfl, rfl, ?_⟩, t.lk.ext (x1.trans x3), h1 p (g1.nS np), ?_⟩
  · rw [appD_eq]
    exact Reps.pair.mpr (Paired.app (Reps.pair.mp (Reps.ext x3 _ _ r1)) (Reps.pair.mp (hd _)))
  · intro v d H4 S4 g4 x4 r4 h4
    obtain ⟨rfl, h4⟩ := h4
    exact ⟨r4, k (.ref p) (.ref p) H4 S4 g4 (x1.trans (x3.trans x4)) rfl h4⟩
theorem de_make (hK : X.K = K) (cl : MakX X.prog X.w K X.mg X.base k x C (spD K c) dvs) (hd : Dfl K dds dvs) (hr : Room j X.A) (hk : k + 1 ≤ j) (hg : Gl X x) (hx : Passes (L2.CX X.prog X.w) X E) (ha : PA X (a :: es) (tDA K E e ts)) (hdb : (x == ("__debug__" : Str)) = false := by decide)
    (he : starEach (a :: es) X.env = (false, eval a X.env) :: starEach es X.env := by rfl) (hpl : (backTo pos (starEach es X.env)).any (·.1) = false := by rfl) : PE X (.Call (.Name x p) (a :: es) [] pos) (tD K E e (dMake C nm c dds e ts)) := by
  subst hK
  exact PE.imp (pe_mkX cl hr hk hg hx ha hdb he hpl) fun σ H Q h => tD_make hd h
theorem de_make0 (hK : X.K = K) (cl : MakX X.prog X.w K X.mg X.base k x C (spD K c) dvs) (hd : Dfl K dds dvs) (hr : Room j X.A) (hk : k + 1 ≤ j) (hg : Gl X x) (hx : Passes (L2.CX X.prog X.w) X E) (hdb : (x == ("__debug__" : Str)) = false := by decide) :
    PE X (.Call (.Name x p) [] [] pos) (tD K E e (dMake C nm c dds e dNil)) := by
  subst hK
  refine PE.imp (pe_mkX0 cl hr hk hg hx hdb) fun σ H Q h => ?_
  have h2 := tD_make (ts := dNil) hd h
  exact h2_nil h2
where
  h2_nil {X : Cx} {E : XK} {e : DX} {C : Addr} {c : DSp} {dvs : List V} {σ : L2.St} {H : Hp} {Q : VK} (h : tMake C (spD X.K c) dvs E (tDA X.K E e dNil) σ H Q) : tMake C (spD X.K c) dvs E tNil σ H Q := by
    obtain ⟨δ, S, Z, q, t, h, k⟩ := h
    exact k [] [] H S t.good Ext.refl rfl h
end
end Dn

/-! what is built in -/
namespace Dn
open PySem PySem.Spec PyProof.Rows L2 Pr
@[reducible] def rcLen : DCr := fun xs S q => match xs with
  | [.str z] => q (.int z.length) S
  | [.lst l] => q (.int l.length) S
  | [.tup l] => q (.int l.length) S
  | [.ref a] => ∃ c, S a = some c ∧ (match c with
    | .lst l => q (.int l.length) S
    | .dic l => q (.int l.length) S
    | _ => False)
  | _ => False
@[reducible] def rcAbs : DCr := fun xs S q => match xs with
  | [.int i] => q (.int (if i < 0 then -i else i)) S
  | _ => False
@[reducible] def rcMax : DCr := fun xs S q => match xs with
  | [.int i, .int j] => q (.int (max i j)) S
  | _ => False
@[reducible] def rcInt : DCr := fun xs S q => match xs with
  | [.int i] => q (.int i) S
  | [.bl b] => q (.int (if b then 1 else 0)) S
  | _ => False
section
variable {X : Cx} {K : PySem.W.Frag}
theorem ints_rep {G : Hp} {ks : List Int} {vs : List V} (h : Reps K G (ks.map Dt.int) vs) : vs = ks.map V.int := by
  induction ks generalizing vs with
  | nil => exact h
  | cons k ks ih =>
    obtain ⟨v, r, rfl, h1, h2⟩ := h
    rw [ih h2, show v = _ from h1]
    rfl
theorem cd_len (hK : X.K = K) : CallR X (.builtin "len") (rDC K rcLen) := fun pins s σ H xs us Q I r ⟨ds, S, Z, q, g, rs, h, k⟩ => by
  subst hK
  match ds, h with
  | [.str z], h =>
    obtain ⟨v, rfl, rv⟩ := reps1 rs
    exact call_len pins s σ H _ us Q I r ⟨v, z.length, rfl, by rw [rv.1]; exact ⟨rv.2.len, rfl⟩, k.here g h rfl⟩
  | [.lst l], h =>
    obtain ⟨v, rfl, rv⟩ := reps1 rs
    obtain ⟨a, vs, rfl, h1, h2⟩ := rv
    exact call_len pins s σ H _ us Q I r ⟨_, vs.length, rfl, .inl ⟨vs, SqL.of (out_le h1), rfl⟩, by rw [← h2.len]; exact k.here g h rfl⟩
  | [.tup l], h =>
    obtain ⟨v, rfl, rv⟩ := reps1 rs
    obtain ⟨a, vs, rfl, h1, h2⟩ := rv
    exact call_len pins s σ H _ us Q I r ⟨_, vs.length, rfl, .inr ⟨vs, SqT.out h1, rfl⟩, by rw [← h2.len]; exact k.here g h rfl⟩
  | [.ref a], h =>
    obtain ⟨v, rfl, rv⟩ := reps1 rs
    obtain rfl := (show v = _ from rv)
    obtain ⟨c, h1, h2⟩ := h
    obtain ⟨o, h3, h4⟩ := g.c a _ h1
    cases c with
    | lst l => obtain ⟨vs, rfl, h5⟩ := h4; exact call_len pins s σ H _ us Q I r ⟨_, vs.length, rfl, .inl ⟨vs, SqL.of h3, rfl⟩, by rw [← h5.len]; exact k.here g h2 rfl⟩
    | dic l => obtain ⟨vs, rfl, h5⟩ := h4; exact call_lenD pins s σ H _ us Q I r ⟨_, vs, rfl, h3, by rw [← h5.len]; exact k.here g h2 rfl⟩
    | _ => exact h2.elim
theorem cd_abs : CallR X (.builtin "abs") (rDC K rcAbs) := fun pins s σ H xs us Q I r ⟨ds, S, Z, q, g, rs, h, k⟩ => by
  match ds, h with
  | [.int i], h =>
    obtain ⟨v, rfl, rv⟩ := reps1 rs
    exact call_absN pins s σ H _ us Q I r ⟨i, by rw [show v = _ from rv], k.here g h rfl⟩
theorem cd_max (hc : X.calm = true) : CallR X (.builtin "max") (rDC K rcMax) := fun pins s σ H xs us Q I r ⟨ds, S, Z, q, g, rs, h, k⟩ => by
  match ds, h with
  | [.int i, .int j], h =>
    obtain ⟨v, w, rfl, rv, rw'⟩ := reps2 rs
    obtain rfl := (show v = _ from rv)
    obtain rfl := (show w = _ from rw')
    exact call_max2N hc pins s σ H _ us Q I r (g_max (k.here g h rfl))
theorem cd_int : CallR X (.type "int") (rDC K rcInt) := fun pins s σ H xs us Q I r ⟨ds, S, Z, q, g, rs, h, k⟩ => by
  match ds, h with
  | [.int i], h =>
    obtain ⟨v, rfl, rv⟩ := reps1 rs
    exact call_int1N pins s σ H _ us Q I r (.inl ⟨i, by rw [show v = _ from rv], k.here g h rfl⟩)
  | [.bl b], h =>
    obtain ⟨v, rfl, rv⟩ := reps1 rs
    exact call_int1N pins s σ H _ us Q I r (.inr ⟨b, by rw [show v = _ from rv], k.here g h rfl⟩)
theorem one_arg {ds : List Dt} {P : Dt → Prop} (h : match ds with
  | [x] => P x
  | _ => False) : ∃ x, ds = [x] ∧ P x := by
  match ds, h with
  | [x], h => exact ⟨x, rfl, h⟩
/-! ## methods of lists -/
@[reducible] def rmAppend : DMr := fun x xs S q => match x, xs with
  | .ref a, [y] => ∃ l, S a = some (.lst l) ∧ l.length < sizeLine ∧ q .non (sput S a (.lst (l ++ [y])))
  | _, _ => False
@[reducible] def rmPop0 : DMr := fun x xs S q => match x, xs with
  | .ref a, [] => ∃ l, S a = some (.lst l) ∧ ∃ y, l[l.length - 1]? = some y ∧ q y (sput S a (.lst l.dropLast))
  | _, _ => False
@[reducible] def rmInsert : DMr := fun x xs S q => match x, xs with
  | .ref a, [.int i, y] => ∃ l, S a = some (.lst l) ∧ (l.length < sizeLine ∧ 0 ≤ i ∧ i < 2 ^ 63) ∧ q .non (sput S a (.lst (l.take i.toNat ++ [y] ++ l.drop i.toNat)))
  | _, _ => False
theorem md_append : MtR X "list.append" (rDM K rmAppend) := fun pins s σ H x xs v us Q I rx r ⟨d, ds, S, Z, q, g, rd, rs, h, k⟩ => by
  match d, ds, h with
  | .ref a, [y], h =>
    obtain ⟨l, h1, h2, h3⟩ := h
    obtain ⟨w, rfl, rw'⟩ := reps1 rs
    obtain ⟨o, h4, vs, rfl, h5⟩ := g.c a _ h1
    have cr : CRep K (out H S Z) (.lst (l ++ [y])) (.lst (vs ++ [w])) := ⟨_, rfl, Reps.pair.mpr (Paired.app (Reps.pair.mp h5) (.cons rw' .nil))⟩
    exact mt_append pins s σ H x _ v us Q I rx r ⟨a, vs, w, rd, rfl, h4, by rw [← h5.len]; exact h2, k _ .non _ _ (g.mut h1 cr) (by rw [out_mut h1]; exact Ext.refl) rfl h3⟩
theorem reps_nil {G : Hp} {vs : List V} (h : Reps K G [] vs) : vs = [] := h
theorem md_pop0 : MtR X "list.pop" (rDM K rmPop0) := fun pins s σ H x xs v us Q I rx r ⟨d, ds, S, Z, q, g, rd, rs, h, k⟩ => by
  match d, ds, h with
  | .ref a, [], h =>
    obtain ⟨l, h1, y, h2, h3⟩ := h
    have e1 := reps_nil rs
    obtain ⟨o, h4, vs, rfl, h5⟩ := g.c a _ h1
    obtain ⟨w, h6, h7⟩ := Paired.get (Reps.pair.mp h5) h2
    have cr : CRep K (out H S Z) (.lst l.dropLast) (.lst vs.dropLast) := ⟨_, rfl, Reps.pair.mpr (by
      rw [List.dropLast_eq_take, List.dropLast_eq_take, h5.len]
      exact Paired.take _ (Reps.pair.mp h5))⟩
    exact mt_pop pins s σ H x _ v us Q I rx r ⟨a, vs, w, rd, e1, h4, by rw [← h5.len]; exact h6, k w y _ _ (g.mut h1 cr) (by rw [out_mut h1]; exact Ext.refl) (by rw [out_mut h1]; exact h7) h3⟩
theorem md_insert : MtR X "list.insert" (rDM K rmInsert) := fun pins s σ H x xs v us Q I rx r ⟨d, ds, S, Z, q, g, rd, rs, h, k⟩ => by
  match d, ds, h with
  | .ref a, [.int i, y], h =>
    obtain ⟨l, h1, ⟨l1, i0, i1⟩, h3⟩ := h
    obtain ⟨w, w2, rfl, rw1, rw2⟩ := reps2 rs
    obtain ⟨o, h4, vs, rfl, h5⟩ := g.c a _ h1
    have cr : CRep K (out H S Z) (.lst (l.take i.toNat ++ [y] ++ l.drop i.toNat)) (.lst (vs.take i.toNat ++ [w2] ++ vs.drop i.toNat)) := ⟨_, rfl, Reps.pair.mpr (Paired.app (Paired.app (Paired.take _ (Reps.pair.mp h5)) (.cons rw2 .nil)) (Paired.drop _ (Reps.pair.mp h5)))⟩
    exact mt_insert pins s σ H x _ v us Q I rx r ⟨a, vs, i, w2, rd, by rw [show w = _ from rw1], h4, by rw [← h5.len]; exact l1, i0, i1, k _ .non _ _ (g.mut h1 cr) (by rw [out_mut h1]; exact Ext.refl) rfl h3⟩
end
/-! ## tuple(x) -/
end Dn

/-! lambdas: told(lambda: ..), kept -/
namespace Dn
open PySem PySem.Spec PyProof.Rows L2 Pr LamX NdefX
theorem cell_ext {K : PySem.W.Frag} {G : Hp} {x : Cell} {φ : Heap → Prop} (h : CRep K G x (.ext φ)) : False := by
  cases x with
  | tbl q => obtain ⟨_, h, _⟩ := h; cases h
  | gtb => obtain ⟨_, h, _⟩ := h; cases h
  | lst l => obtain ⟨_, h, _⟩ := h; cases h
  | dic l => obtain ⟨_, h, _⟩ := h; cases h
  | dct l => obtain ⟨_, h, _⟩ := h; cases h
  | lck u l => obtain ⟨_, _, _, h, _⟩ := h; cases h
  | ins C nm l => obtain ⟨_, _, h, _⟩ := h; cases h
section
variable {K : PySem.W.Frag} {Z H H1 : Hp} {S : Store} {P : Addr} {q : Str}
/-- a thing that is known by its object alone stands still -/
theorem out_ext (g : Good K Z H S) (x : OnlyT P H H1) (hP : ∀ φ, H1 P ≠ some (.ext φ)) {b : Addr} {φ : Heap → Prop} (h : H1 b = some (.ext φ)) : out H1 S Z b = some (.ext φ) := by
  have nb : b ≠ P := fun z => hP φ (by rw [← z]; exact h)
  refine (out_of ?_ ?_).trans h
  · cases hs : S b with
    | none => rfl
    | some d =>
      obtain ⟨o, h1, h2⟩ := g.c b d hs
      have := x b o h1 nb
      rw [h] at this
      cases this
      exact (cell_ext h2).elim
  · cases hs : Z b with
    | none => rfl
    | some d =>
      obtain ⟨q1, _, q3⟩ := g.z b d hs
      have := x b d q1 nb
      rw [h] at this
      cases this
      rcases q3 with ⟨vs, z⟩ | ⟨kvs, z⟩ <;> cases z
theorem good_only (g : Good K Z H S) (x : OnlyT P H H1) {c : Cell} (hS : S P = some c) (hr : Ext (out H S Z) (out H1 S Z) → ∃ o, H1 P = some o ∧ CRep K (out H1 S Z) c o) : Good K Z H1 S ∧ Ext (out H S Z) (out H1 S Z) := by
  have e : Ext (out H S Z) (out H1 S Z) := Ext.of fun b o hb => by
    obtain ⟨h1, h2, h3⟩ := out_some hb
    rw [out_of h1 h2]
    exact x b o h3 fun z => by rw [z, hS] at h1; cases h1
  refine ⟨⟨fun b o hb => ?_, fun a d hd => ?_⟩, e⟩
  · obtain ⟨h1, h2, h3⟩ := g.z b o hb
    exact ⟨x b o h1 (fun z => by rw [z, hS] at h2; cases h2), h2, h3⟩
  · by_cases ha : a = P
    · subst ha
      rw [hS] at hd
      cases hd
      exact hr e
    · obtain ⟨o, h1, h2⟩ := g.c a d hd
      exact ⟨o, x a o h1 ha, CRep.ext e _ _ h2⟩
end
/-- what a lambda promises, by the deep values of its captured cells -/
abbrev DLp := DS → Store → DK → DX → Prop
section
variable {P : Program} {w : World} {K : PySem.W.Frag} {mg : Str → Option Value} {base : Heap} {k : Nat} {f : Addr} {F : NF} {b : Expr} {N : List Str} {c : DLp}
end
section
variable {X : Cx} {K : PySem.W.Frag} {E : XK} {e : DX}
end
end Dn

namespace Dn
open PySem PySem.Spec PyProof.Rows L2 Pr
theorem repL_pair {α β : Type} {F : α → β → Prop} {l : List α} {m : List β} (h : Paired F l m) : ∀ n : Nat, Paired F (List.replicate n l).flatten (List.replicate n m).flatten
  | 0 => .nil
  | n + 1 => by
    rw [List.replicate_succ, List.replicate_succ, List.flatten_cons, List.flatten_cons]
    exact Paired.app h (repL_pair h n)
section
variable {X : Cx} {K : PySem.W.Frag}
theorem foldl_rep (c : Array Nat) : ∀ (n : Nat) (acc : Array Nat), ((List.replicate n c).foldl (· ++ ·) acc).toList = acc.toList ++ (List.replicate n c.toList).flatten
  | 0, acc => by simp
  | n + 1, acc => by
    rw [List.replicate_succ, List.foldl_cons, foldl_rep c n, List.replicate_succ, List.flatten_cons, Array.toList_append, List.append_assoc]
theorem mul_rep {z : Str} {n : Int} (h0 : 0 ≤ n) : Txt.mul z n = repS z n.toNat := by
  have ext : ∀ a b : Str, a.cps.toList = b.cps.toList → a = b := fun a b h => by
    obtain ⟨a⟩ := a
    obtain ⟨b⟩ := b
    congr 1
    exact Array.toList_inj.mp h
  apply ext
  unfold Txt.mul repS
  by_cases h1 : n < 1
  · have : n = 0 := by omega
    subst this
    rw [if_pos h1]
    rfl
  · rw [if_neg h1]
    split
    · rename_i hc
      rw [Bool.or_eq_true] at hc
      rcases hc with hc | hc
      · have : n = 1 := by simpa using hc
        subst this
        simp
      · have : z.cps.size = 0 := by
          have hc : (z.cps.size == 0) = true := hc
          simpa using hc
        have e : z.cps.toList = [] := by rw [← List.length_eq_zero_iff, Array.length_toList]; exact this
        rw [e]
        simp
    · simp [foldl_rep]
theorem repS_len (z : Str) (n : Nat) : (repS z n).length = n * z.length := by
  rw [len_cps, len_cps]
  unfold repS
  simp
theorem sok_rep {z : Str} {n : Nat} (h : SOk z) (hl : z.length * n ≤ sizeLine) : SOk (repS z n) := ⟨by rw [repS_len, Nat.mul_comm]; exact hl, by
  rw [sok_all]
  intro c hc
  unfold repS at hc
  simp only [List.mem_flatten] at hc
  obtain ⟨l, hl, hc⟩ := hc
  rw [List.eq_of_mem_replicate hl] at hc
  exact sok_all.mp h.ok c hc⟩
theorem od_mul : OpR X (binaryOp .Mult) (rD K rMul) := fun pins s σ H x y v u Q I rv ru ⟨dx, dy, S, Z, q, g, rx, ry, h, k⟩ => by
  have lists : ∀ n : Int, y = .int n → (seeL dx S fun l => (-(2 ^ 63) ≤ n ∧ n < 2 ^ 63 ∧ l.length * n.toNat ≤ sizeLine) ∧ q (.lst (List.replicate n.toNat l).flatten) S) → wpAny (model X.prog X.w) X.A (binaryOp .Mult v u) (EP X pins σ Q) X.xe s := fun n e h => by
    obtain ⟨a, xs, l, rfl, ha, ra, ⟨h1, h2, h3⟩, h⟩ := see_lst g rx h
    exact op_rep pins s σ H _ _ v u Q I rv ru ⟨a, n, xs, rfl, e, ha, h1, h2, by rw [← ra.len]; exact h3, fun p np => k.new g np h ⟨p, _, rfl, out_new g np, Reps.pair.mpr (repL_pair (Reps.pair.mp (Reps.ext (ext_new g np) _ _ ra)) _)⟩⟩
  cases dy with
  | int n =>
    cases dx with
    | int i => exact op_mul pins s σ H x y v u Q I rv ru ⟨i, n, rx, ry, h.1, k.here g h.2 rfl⟩
    | str z =>
      obtain ⟨⟨h1, h2, h3⟩, h⟩ := h
      obtain rfl := rx.1
      obtain rfl := (show y = _ from ry)
      obtain ⟨t, rfl⟩ := (show ∃ t, v = Value.str z t from rv)
      obtain ⟨t', rfl⟩ := (show ∃ t, u = Value.int n t from ru)
      refine SB.mul ⟨?_, fun h4 h5 => ?_, fun h4 h5 => ?_⟩ fun t2 k2 => ⟨.str (Txt.mul z n), H, I.tok _, ⟨_, rfl⟩, ?_⟩
      · have a1 : ¬ n < -(2 ^ 63 : Int) := by omega
        have a2 : ¬ n ≥ 2 ^ 63 := by omega
        rw [decide_eq_false a1, decide_eq_false a2]; rfl
      · intro hc
        have hz := rx.2.len
        rw [sizeLine_eq] at hz
        have a1 : (2 ^ 63 - 1 : Int) / n ≥ (2 ^ 63 - 1) / 2 ^ 24 := by
          apply Int.le_ediv_of_mul_le (by omega)
          have : (2 ^ 63 - 1 : Int) / 2 ^ 24 * n ≤ (2 ^ 63 - 1 : Int) / 2 ^ 24 * 2 ^ 24 := Int.mul_le_mul_of_nonneg_left (by omega) (by decide)
          exact Int.le_trans this (by decide)
        have a2 : ((2 ^ 63 - 1) / 2 ^ 24 : Int) = 549755813887 := by decide
        omega
      · unfold Builtin.Str.tooLong
        have := h3
        rw [sizeLine_eq] at this ⊢
        simp
        omega
      · rw [mul_rep h1]
        exact k.here g h ⟨rfl, sok_rep rx.2 h3⟩
    | _ => exact lists n ry h
  | _ => cases dx <;> exact h.elim
theorem od_inG (neg : Bool) {op : CmpOp} (hK : X.K = K) (o1 : OpR X (compareOp op) fun x y H Q => ∃ d ds, Dp X.K H x d ∧ Dp X.K H y (.list ds) ∧ SeqAt.shaped d = true ∧ SeqAt.shaped (.list ds) = true ∧ Q (.bl (if neg then !(ds.any fun z => PyData.eqv z d) else ds.any fun z => PyData.eqv z d)) H)
    (o2 : OpR X (compareOp op) fun x y H Q => ∃ i j, x = .str i ∧ y = .str j ∧ Q (.bl (if neg then !hasS j i else hasS j i)) H) (o3 : OpR X (compareOp op) (rIn X.K neg)) : OpR X (compareOp op) (rD K (dIn neg)) := fun pins s σ H x y v u Q I rv ru ⟨dx, dy, S, Z, q, g, rx, ry, h, k⟩ => by
  subst hK
  have lists : (seeL dy S fun l => (isDat dx = true ∧ areDat l = true ∧ (py dx).depth ≤ 64 ∧ (py (.lst l)).depth ≤ 64) ∧ q (.bl (if neg then !memD dx l else memD dx l)) S) → wpAny (model X.prog X.w) X.A (compareOp op v u) (EP X pins σ Q) X.xe s := fun h => by
    obtain ⟨a, xs, l, rfl, ha, ra, ⟨h1, h2, h3, h4⟩, h⟩ := see_lst g ry h
    have dl : Dp X.K H (.ref a) (.list (pys l)) := .lst (SqL.of ha) (Reps.dp l xs h2 ra)
    have e : ((pys l).any fun z => PyData.eqv z (py dx)) = memD dx l := by
      unfold memD
      rw [pys_map, List.any_map]
      rfl
    refine o1 pins s σ H _ _ v u Q I rv ru ⟨py dx, pys l, Rep.dp _ _ h1 rx, dl, Rep.shaped rx h3, ?_, by rw [e]; exact k.here g h rfl⟩
    show ((PyData.list (pys l)).canLay0 && decide ((PyData.list (pys l)).depth ≤ 64)) = true
    rw [decide_eq_true (show (PyData.list (pys l)).depth ≤ 64 from h4), Bool.and_true]
    exact Reps.lay l xs ra
  cases dy with
  | str z =>
    obtain ⟨t, rfl, h⟩ := h
    exact o2 pins s σ H x y v u Q I rv ru ⟨t, z, rx.1, ry.1, k.here g h rfl⟩
  | tup l =>
    obtain ⟨⟨h1, h2, h3⟩, h⟩ := h
    obtain ⟨a, xs, rfl, ha, ra⟩ := ry
    have flat1 : ∀ (d : Dt) (v : V) (G : Hp), isDat d = true → (py d).depth = 0 → Rep X.K G d v → flatV v = true ∧ ∀ (e : Dt) (w : V), isDat e = true → (py e).depth = 0 → Rep X.K G e w → eqV w v = deqv e d := fun d v G hd hp r => by
      have flat0 : ∀ (e : Dt), isDat e = true → (py e).depth = 0 → e = .non ∨ (∃ b, e = .bl b) ∨ (∃ i, e = .int i) ∨ ∃ z, e = .str z := fun e he hp => by
        cases e with
        | non => exact .inl rfl
        | bl b => exact .inr (.inl ⟨b, rfl⟩)
        | int i => exact .inr (.inr (.inl ⟨i, rfl⟩))
        | str z => exact .inr (.inr (.inr ⟨z, rfl⟩))
        | tup l => simp [py, PyData.depth] at hp
        | ptp l => simp [py, PyData.depth] at hp
        | lst l => simp [py, PyData.depth] at hp
        | _ => simp [isDat] at he
      rcases flat0 d hd hp with rfl | ⟨b, rfl⟩ | ⟨i, rfl⟩ | ⟨z, rfl⟩
      all_goals first
        | obtain rfl := (show v = _ from r)
        | obtain rfl := r.1
      all_goals refine ⟨rfl, fun e w he hq r2 => ?_⟩
      all_goals rcases flat0 e he hq with rfl | ⟨b', rfl⟩ | ⟨i', rfl⟩ | ⟨z', rfl⟩
      all_goals first
        | obtain rfl := (show w = _ from r2)
        | obtain rfl := r2.1
      all_goals rfl
    have all : ∀ (l : List Dt) (xs : List V), l.all (fun z => isDat z && decide ((py z).depth = 0)) = true → Reps X.K (out H S Z) l xs → xs.all flatV = true ∧ inV x xs = memD dx l := fun l => by
      induction l with
      | nil => intro xs _ r; rw [show xs = [] from r]; exact ⟨rfl, rfl⟩
      | cons d l ih =>
        intro xs hh r
        obtain ⟨v', r', rfl, r1, r2⟩ := r
        rw [List.all_cons, Bool.and_eq_true, Bool.and_eq_true, decide_eq_true_iff] at hh
        obtain ⟨i1, i2⟩ := ih r' hh.2 r2
        obtain ⟨f1, f2⟩ := flat1 d v' _ hh.1.1 hh.1.2 r1
        obtain ⟨f3, f4⟩ := flat1 dx x _ h1 h2 rx
        refine ⟨by rw [List.all_cons, f1, i1]; rfl, ?_⟩
        show ((v' :: r').any fun y => eqV y x) = (d :: l).any fun z => deqv z dx
        rw [List.any_cons, List.any_cons, f4 d v' hh.1.1 hh.1.2 r1]
        congr 1
    obtain ⟨a1, a2⟩ := all l xs h3 ra
    refine o3 pins s σ H _ _ v u Q I rv ru ⟨a, xs, rfl, .inr (SqT.out ha), (flat1 dx x _ h1 h2 rx).1, a1, ?_⟩
    rw [a2]
    exact k.here g h rfl
  | _ => exact lists h
theorem od_in (hK : X.K = K) (hu : X.A.units + 65 < cLine) : OpR X (compareOp .In) (rD K (dIn false)) := od_inG false hK (op_inD hu) op_in_str op_in_seq
theorem od_notin (hK : X.K = K) (hu : X.A.units + 65 < cLine) : OpR X (compareOp .NotIn) (rD K (dIn true)) := od_inG true hK (op_notInD hu) op_notin_str op_notIn_seq
end
end Dn

namespace Dn
open PySem PySem.Spec PyProof.Rows L2 Pr LamX
theorem hW_of {A : Around} {k : Nat} (hr : Room k A) : A.units + 65 < cLine := by
  have := hr.un
  omega
/-! ## a cell stands still from here on -/
/-! ## raise -/
section
variable {P : Program} {w : World} {K : PySem.W.Frag} {mg : Str → Option Value} {base : Heap} {N : List Str} {qual : Str} {scope : Scope} {f : Addr} {cd : Value} {A : Around} {outer : List Env} {s : Shared} {H : Hp} {E : XK} {e : DX} {ex : Expr} {pos : Pos} {C : Addr}
theorem dr_raise {B newId initId bmB} {x m : Str} {j : Nat} {p p2 pos2 : Pos} (F : ExcBaseFacts B newId initId bmB) (q : PySem.W.excIn K C bmB newId = true) (gC : mg x = some (.ref C)) (kC : PySem.W.keepIn K (.ref C) = true)
    (r : Raises (cxOf (L2.CX P w) P w K mg base N qual scope f cd A outer s H E) (.ref C)) (hg : Gl (cxOf (L2.CX P w) P w K mg base N qual scope f cd A outer s H E) x) (hdb : (x == ("__debug__" : Str)) = false := by decide) :
    PS (cxOf (L2.CX P w) P w K mg base N qual scope f cd A outer s H E) (.Raise (some (.Call (.Name x p) [.Constant (.str m) j p2] [] pos2)) none pos) (tDS K E e (dRaise e C)) :=
  ds_raise (W := fun cls d _ H => E cls d H) (B := "") (t := fun _ H Q => Q (.ref C) none H) rfl tkX (fun _ _ _ _ h => h) (pmk_own F q gC kC r hg hdb)
end
/-! ## dicts that change -/
section
variable {X : Cx} {K : PySem.W.Frag} {E : XK} {e : DX} {pos pos' apos cpos tpos p : Pos} {a b c ex : Expr} {da db dc : DTE}
theorem sput_id {S : Store} {a : Addr} {c : Cell} (h : S a = some c) : sput S a c = S := by
  funext b
  unfold sput
  split
  · rename_i e; rw [e, h]
  · rfl
/-! ## in place -/
@[reducible] def rIAdd : D2 := fun x y S q => match x, y with
  | .int i, .int j => q (.int (i + j)) S
  | .str a, .str b => a.length + b.length ≤ sizeLine ∧ q (.str (a ++ b)) S
  | _, _ => False
theorem ip_addD : OpR X (inplaceOp .Add) (rD K rIAdd) := fun pins s σ H x y v u Q I rv ru ⟨dx, dy, S, Z, q, g, rx, ry, h, k⟩ => by
  cases dx with
  | int i =>
    cases dy with
    | int j => exact iop_add pins s σ H x y v u Q I rv ru ⟨i, j, rx, ry, k.here g h rfl⟩
    | _ => exact h.elim
  | str a =>
    cases dy with
    | str b => exact iop_add_str pins s σ H x y v u Q I rv ru ⟨a, b, rx.1, ry.1, h.1, k.here g h.2 ⟨rfl, rx.2.app ry.2 h.1⟩⟩
    | _ => exact h.elim
  | _ => cases dy <;> exact h.elim
theorem in_addD : InOp X .Add (rD K rIAdd) := fun pins s σ H x y v u Q I rv ru h => ip_addD pins s σ H x y v u Q I rv ru h
theorem ip_subD : OpR X (inplaceOp .Sub) (rD K rSub) := fun pins s σ H x y v u Q I rv ru ⟨dx, dy, S, Z, q, g, rx, ry, h, k⟩ => by
  cases dx with
  | int i =>
    cases dy with
    | int j => exact ip_sub pins s σ H x y v u Q I rv ru ⟨i, j, rx, ry, k.here g h rfl⟩
    | _ => exact h.elim
  | _ => cases dy <;> exact h.elim
end
/-! ## list(d.items()) -/
section
variable {X : Cx} {K : PySem.W.Frag} {E : XK} {e : DX} {p pos apos cpos : Pos} {a : Expr} {da : DTE}
end
end Dn

/-! tools over stores and deep values -/
namespace Dn
open PySem PySem.Spec PyProof.Rows L2 Pr
/-! ## stores -/
/-- all cells but M are as they were -/
def Kps (M : List Addr) (S S' : Store) : Prop := ∀ b c, S b = some c → b ∉ M → S' b = some c
section
variable {M M' : List Addr} {S S1 S2 : Store} {p : Addr} {c d : Cell}
theorem ne_cell {a b : Addr} (h : S a = some c) (h' : S b = some d) (n : c ≠ d) : a ≠ b := fun e => by rw [e, h'] at h; exact n (Option.some.inj h).symm
theorem ne_free {a b : Addr} (h : S a = some c) (h' : S b = none) : a ≠ b := fun e => by rw [e, h'] at h; cases h
theorem Kps.refl : Kps M S S := fun _ _ h _ => h
theorem Kps.trans (a : Kps M S S1) (b : Kps M S1 S2) : Kps M S S2 := fun e u h n => b e u (a e u h n) n
theorem Kps.mono (a : Kps M S S1) (h : ∀ b, b ∈ M → b ∈ M' ∨ S b = none) : Kps M' S S1 := fun e u q n => a e u q fun m => by
  rcases h e m with z | z
  · exact n z
  · rw [z] at q; cases q
theorem Kps.sub (a : Kps M S S1) (h : ∀ b, b ∈ M → b ∈ M') : Kps M' S S1 := a.mono fun b hb => .inl (h b hb)
theorem Kps.new (a : Kps M S S1) (n : S1 p = none) : Kps M S (sput S1 p c) := fun e u h m => by
  have z := a e u h m
  rw [sput_ne (ne_free z n)]
  exact z
theorem Kps.own (a : Kps M S S1) (n : S p = none) : Kps M S (sput S1 p c) := fun e u h m => by
  rw [sput_ne (ne_free h n)]
  exact a e u h m
theorem Kps.mut (a : Kps M S S1) (m : p ∈ M) : Kps M S (sput S1 p c) := fun e u h n => by
  rw [sput_ne fun z => n (by rw [z]; exact m)]
  exact a e u h n
/-- what is in M is of another kind -/
theorem Kps.get (a : Kps M S S1) (h : S p = some c) (n : ∀ b ∈ M, S b ≠ some c) : S1 p = some c := a p c h fun m => n p m h
theorem Kps.free (a : Kps [] S S1) (n : S1 p = none) : S p = none := by
  cases e : S p with
  | none => rfl
  | some u => rw [a p u e (by simp)] at n; cases n
/-- no new tables of codes -/
def NoT (S S' : Store) : Prop := ∀ a q, S' a = some (.tbl q) → S a = some (.tbl q)
theorem NoT.put (h : NoT S S1) (nt : ∀ q, c ≠ .tbl q) : NoT S (sput S1 p c) := fun a q e => by
  by_cases ha : a = p
  · rw [ha, sput_same] at e
    exact absurd (Option.some.inj e) (nt q)
  · rw [sput_ne ha] at e
    exact h a q e
/-- a frame -/
structure Frm (M : List Addr) (S S' : Store) : Prop where
  k : Kps M S S'
  t : NoT S S'
theorem Frm.refl : Frm M S S := ⟨Kps.refl, fun _ _ h => h⟩
theorem Frm.trans (a : Frm M S S1) (b : Frm M S1 S2) : Frm M S S2 := ⟨a.k.trans b.k, fun x q h => a.t x q (b.t x q h)⟩
theorem Frm.mono (a : Frm M S S1) (h : ∀ b, b ∈ M → b ∈ M' ∨ S b = none) : Frm M' S S1 := ⟨a.k.mono h, a.t⟩
theorem Frm.new (a : Frm M S S1) (n : S1 p = none) (nt : ∀ q, c ≠ .tbl q := by intro q z; cases z) : Frm M S (sput S1 p c) := ⟨a.k.new n, a.t.put nt⟩
theorem Frm.own (a : Frm M S S1) (n : S p = none) (nt : ∀ q, c ≠ .tbl q := by intro q z; cases z) : Frm M S (sput S1 p c) := ⟨a.k.own n, a.t.put nt⟩
theorem Frm.mut (a : Frm M S S1) (m : p ∈ M) (nt : ∀ q, c ≠ .tbl q := by intro q z; cases z) : Frm M S (sput S1 p c) := ⟨a.k.mut m, a.t.put nt⟩
theorem sput_free {a b : Addr} (h : sput S a c b = none) : b ≠ a ∧ S b = none := by
  have n : b ≠ a := fun e => by rw [e, sput_same] at h; cases h
  exact ⟨n, by rw [sput_ne n] at h; exact h⟩
end
/-! ## dicts with texts as keys -/
section
variable {α : Type} {g : α → Dt}
def encD (g : α → Dt) (L : List (Str × α)) : List (Key × Dt) := L.map fun e => (Sum.inr e.1, g e.2)
theorem encD_len (L : List (Str × α)) : (encD g L).length = L.length := List.length_map ..
end
/-! ## comparing typed things -/
class Enc (α : Type) [DecidableEq α] where
  enc : α → Dt
  dat : ∀ a, isDat (enc a) = true
  eqv : ∀ a b, deqv (enc a) (enc b) = decide (a = b)
  dep : Nat
  dep_le : ∀ a, (py (enc a)).depth ≤ dep
/-- never None -/
class EncN (α : Type) [DecidableEq α] extends Enc α where
  nn : ∀ a, deqv .non (enc a) = false ∧ deqv (enc a) .non = false
theorem beq_dec {α : Type} [DecidableEq α] [BEq α] [LawfulBEq α] (a b : α) : (a == b) = decide (a = b) := by
  rw [Bool.eq_iff_iff, beq_iff_eq, decide_eq_true_eq]
instance : EncN Int := { enc := .int, dat := fun _ => rfl, eqv := fun a b => beq_dec a b, dep := 0, dep_le := fun _ => Nat.le_refl _, nn := fun _ => ⟨rfl, rfl⟩ }
instance : EncN Bool := { enc := .bl, dat := fun _ => rfl, eqv := fun a b => beq_dec a b, dep := 0, dep_le := fun _ => Nat.le_refl _, nn := fun _ => ⟨rfl, rfl⟩ }
instance : EncN Str := { enc := .str, dat := fun _ => rfl, eqv := fun a b => beq_dec a b, dep := 0, dep_le := fun _ => Nat.le_refl _, nn := fun _ => ⟨rfl, rfl⟩ }
section
variable {α β γ : Type} [DecidableEq α] [DecidableEq β] [DecidableEq γ]
@[reducible] def encO [Enc α] : Option α → Dt
  | none => .non
  | some a => Enc.enc a
theorem encO_dat [Enc α] (a : Option α) : isDat (encO a) = true := by
  cases a
  · exact rfl
  · exact Enc.dat _
theorem encO_eqv [EncN α] (a b : Option α) : deqv (encO a) (encO b) = decide (a = b) := by
  cases a with
  | none =>
    cases b with
    | none => rfl
    | some b => exact (EncN.nn b).1
  | some a =>
    cases b with
    | none => exact (EncN.nn a).2
    | some b =>
      rw [show deqv (encO (some a)) (encO (some b)) = _ from Enc.eqv a b]
      simp
theorem encO_dep [Enc α] (a : Option α) : (py (encO a)).depth ≤ Enc.dep α := by
  cases a
  · exact Nat.zero_le _
  · exact Enc.dep_le _
instance [EncN α] : Enc (Option α) := { enc := encO, dat := encO_dat, eqv := encO_eqv, dep := Enc.dep α, dep_le := encO_dep }
def encP [Enc α] [Enc β] (p : α × β) : Dt := .tup [Enc.enc p.1, Enc.enc p.2]
theorem encP_dat [Enc α] [Enc β] (p : α × β) : isDat (encP p) = true := by
  show (isDat (Enc.enc p.1) && (isDat (Enc.enc p.2) && true)) = true
  rw [Enc.dat, Enc.dat]
  rfl
theorem encP_eqv [Enc α] [Enc β] (a b : α × β) : deqv (encP a) (encP b) = decide (a = b) := by
  show (deqv (Enc.enc a.1) (Enc.enc b.1) && (deqv (Enc.enc a.2) (Enc.enc b.2) && true)) = _
  rw [Enc.eqv, Enc.eqv, Bool.and_true, Bool.eq_iff_iff]
  simp [Prod.ext_iff]
theorem encP_dep [Enc α] [Enc β] (p : α × β) : (py (encP p)).depth ≤ max (Enc.dep α) (Enc.dep β) + 1 := by
  show max (py (Enc.enc p.1)).depth (max (py (Enc.enc p.2)).depth 0) + 1 ≤ _
  have h1 := Enc.dep_le p.1
  have h2 := Enc.dep_le p.2
  omega
instance [Enc α] [Enc β] : EncN (α × β) := { enc := encP, dat := encP_dat, eqv := encP_eqv, dep := max (Enc.dep α) (Enc.dep β) + 1, dep_le := encP_dep, nn := fun _ => ⟨rfl, rfl⟩ }
theorem pys_dep {l : List Dt} {n : Nat} (h : ∀ d ∈ l, (py d).depth ≤ n) : PyData.depthAll (pys l) ≤ n := by
  induction l with
  | nil => exact Nat.zero_le _
  | cons d l ih =>
    show max (py d).depth (PyData.depthAll (pys l)) ≤ n
    exact Nat.max_le.mpr ⟨h d List.mem_cons_self, ih fun x hx => h x (List.mem_cons_of_mem _ hx)⟩
theorem areDat_of {l : List Dt} (h : ∀ d ∈ l, isDat d = true) : areDat l = true := by rw [areDat_all]; exact List.all_eq_true.mpr h
theorem eqvAll_map {f : α → Dt} (h : ∀ a b, deqv (f a) (f b) = decide (a = b)) : ∀ l m : List α, PyData.eqvAll (pys (l.map f)) (pys (m.map f)) = decide (l = m)
  | [], [] => rfl
  | [], _ :: _ => rfl
  | _ :: _, [] => rfl
  | a :: l, b :: m => by
    show (deqv (f a) (f b) && PyData.eqvAll (pys (l.map f)) (pys (m.map f))) = _
    rw [h, eqvAll_map h l m, Bool.eq_iff_iff]
    simp
end
/-- things of one kind, by a function that tells them apart -/
structure Tells {α : Type} [DecidableEq α] (f : α → Dt) (n : Nat) : Prop where
  dat : ∀ a, isDat (f a) = true
  eqv : ∀ a b, deqv (f a) (f b) = decide (a = b)
  dep : ∀ a, (py (f a)).depth ≤ n
section
variable {α : Type} [DecidableEq α] {f : α → Dt} {n : Nat} {S : Store} {q : DK}
theorem tells_enc [Enc α] : Tells (Enc.enc (α := α)) (Enc.dep α) := ⟨Enc.dat, Enc.eqv, Enc.dep_le⟩
theorem Tells.lst (t : Tells f n) : Tells (fun l : List α => Dt.lst (l.map f)) (n + 1) := ⟨fun l => areDat_of fun d hd => by
  obtain ⟨a, _, rfl⟩ := List.mem_map.mp hd
  exact t.dat a, fun l m => eqvAll_map t.eqv l m, fun l => Nat.succ_le_succ (pys_dep fun d hd => by
  obtain ⟨a, _, rfl⟩ := List.mem_map.mp hd
  exact t.dep a)⟩
theorem Tells.tup (t : Tells f n) : Tells (fun l : List α => Dt.tup (l.map f)) (n + 1) := ⟨fun l => areDat_of fun d hd => by
  obtain ⟨a, _, rfl⟩ := List.mem_map.mp hd
  exact t.dat a, fun l m => eqvAll_map t.eqv l m, fun l => Nat.succ_le_succ (pys_dep fun d hd => by
  obtain ⟨a, _, rfl⟩ := List.mem_map.mp hd
  exact t.dep a)⟩
theorem Tells.eq (t : Tells f n) (hn : n ≤ 64) {a b : α} (h : q (.bl (decide (a = b))) S) : dEq (f a) (f b) S q := ⟨⟨t.dat a, t.dat b, Nat.le_trans (t.dep a) hn, Nat.le_trans (t.dep b) hn⟩, by rw [t.eqv]; exact h⟩
theorem Tells.ne (t : Tells f n) (hn : n ≤ 64) {a b : α} (h : q (.bl (!decide (a = b))) S) : dNe (f a) (f b) S q := ⟨⟨t.dat a, t.dat b, Nat.le_trans (t.dep a) hn, Nat.le_trans (t.dep b) hn⟩, by rw [t.eqv]; exact h⟩
theorem Tells.mem (t : Tells f n) (a : α) (l : List α) : memD (f a) (l.map f) = decide (a ∈ l) := by
  unfold memD
  rw [List.any_map, Bool.eq_iff_iff, List.any_eq_true, decide_eq_true_iff]
  constructor
  · rintro ⟨x, hx, h⟩
    have h : deqv (f x) (f a) = true := h
    rw [t.eqv] at h
    rw [← of_decide_eq_true h]
    exact hx
  · exact fun h => ⟨a, h, by show deqv (f a) (f a) = true; rw [t.eqv]; simp⟩
end
section
variable {S : Store} {q : DK}
theorem eq_int {a b : Int} (h : q (.bl (decide (a = b))) S) : dEq (.int a) (.int b) S q := (tells_enc (α := Int)).eq (Nat.zero_le _) h
theorem eq_str {a b : Str} (h : q (.bl (decide (a = b))) S) : dEq (.str a) (.str b) S q := (tells_enc (α := Str)).eq (Nat.zero_le _) h
theorem eq_bl {a b : Bool} (h : q (.bl (decide (a = b))) S) : dEq (.bl a) (.bl b) S q := (tells_enc (α := Bool)).eq (Nat.zero_le _) h
theorem ne_int {a b : Int} (h : q (.bl (!decide (a = b))) S) : dNe (.int a) (.int b) S q := (tells_enc (α := Int)).ne (Nat.zero_le _) h
theorem ne_str {a b : Str} (h : q (.bl (!decide (a = b))) S) : dNe (.str a) (.str b) S q := (tells_enc (α := Str)).ne (Nat.zero_le _) h
theorem ne_bl {a b : Bool} (h : q (.bl (!decide (a = b))) S) : dNe (.bl a) (.bl b) S q := (tells_enc (α := Bool)).ne (Nat.zero_le _) h
end
end Dn

namespace Dn
open PySem PySem.Spec PyProof.Rows L2 Pr
section
variable {X : Cx} {K : PySem.W.Frag} {E : XK} {e : DX} {st : Stmt}
theorem ds_never : PS X st (tDS K E e (fun _ _ _ => False)) := PS.imp ps_never fun D σ H h => by
  obtain ⟨D', S, Z, δ, t, h, k⟩ := h
  exact h.elim
end
theorem szD {n : Nat} (h : n ≤ 10000) : n < sizeLine := Nat.lt_of_le_of_lt h (Nat.le_of_ble_eq_true rfl)
/-! tests that are comparisons -/
@[reducible] def dTst (a : DTE) : DTT := fun δ S q => a δ S fun x S1 => ∃ k, x = .bl k ∧ q k S1
section
variable {X : Cx} {K : PySem.W.Frag} {E : XK} {e : DX} {pos : Pos} {a b c : Expr} {da db dc : DTE}
theorem tD_tst {σ : L2.St} {H : Hp} {Q : Bool → Hp → Prop} (h : tDT K E e (dTst da) σ H Q) : tTest (tD K E e da) σ H Q := by
  obtain ⟨δ, S, Z, q, t, h, k⟩ := h
  refine ⟨δ, S, Z, _, t, h, fun v x H1 S1 g1 x1 r1 h1 => ?_⟩
  obtain ⟨b, rfl, h1⟩ := h1
  exact ⟨b, r1, k b H1 S1 g1 x1 h1⟩
theorem dt_cmp {op : CmpOp} {dr : D2} (ho : OpR X (compareOp op) (rD K dr)) (ha : PE X a (tD K E e da)) (hb : PE X b (tD K E e db)) (hm : behindInMarks op b = false := by rfl) : PT X (.Compare a [op] [b] pos) (tDT K E e (dTst (dOp dr da db))) :=
  PT.imp (pt_cmpR ho ha hb hm) fun σ H Q h => by
    exact tT_op (tD_tst h)
where
  tT_op {dr : D2} {σ : L2.St} {H : Hp} {Q : Bool → Hp → Prop} (h : tTest (tD K E e (dOp dr da db)) σ H Q) : tTest (tOp (rD K dr) (tD K E e da) (tD K E e db)) σ H Q := tD_op h
theorem dt_din (hu : X.A.units + 1 < cLine) (hb : PE X b (tD K E e db)) (ha : PE X a (tD K E e da)) (hm : behindInMarks .In a = false := by rfl) : PT X (.Compare b [.In] [a] pos) (tDT K E e (dTst (dDin db da))) := PT.imp (pt_cmp (pc_din hu hb ha) hm) fun σ H Q h => by
  obtain ⟨δ, S, Z, q, t, h, k⟩ := (tD_tst h : tD K E e (dDin db da) σ H _)
  refine ⟨δ, S, Z, _, t, h, fun v x H1 S1 g1 x1 r1 h1 => ⟨δ, S1, Z, _, t.to g1 x1, h1, fun w y H2 S2 g2 x2 r2 h2 => ?_⟩⟩
  obtain ⟨a, o, rfl, h3, h4⟩ := getD_of g2 r2 (Rep.ext x2 _ _ r1) h2
  rcases h4 with ⟨rfl, h4⟩ | ⟨x', u, rfl, h6, h7⟩
  · exact ⟨a, _, rfl, h4, (k.ext (x1.trans x2)).here g2 h3 rfl⟩
  · exact ⟨a, _, rfl, h6, (k.ext (x1.trans x2)).here g2 h3 rfl⟩
theorem dt_chain {op op' : CmpOp} {r r' : D2} (ho : OpR X (compareOp op) (rD K r)) (ho' : OpR X (compareOp op') (rD K r')) (ha : PE X a (tD K E e da)) (hb : PE X b (tD K E e db)) (hc : PE X c (tD K E e dc)) (hm : lastMarks [op, op'] [b, c] = false := by rfl) :
    PT X (.Compare a [op, op'] [b, c] pos) (tDT K E e (dTst (dChain r r' da db dc))) := PT.imp (pt_chain ho ho' ha hb hc hm) fun σ H Q h => by
  exact tD_chain (tD_tst h)
where
  tD_chain {r r' : D2} {σ : L2.St} {H : Hp} {Q : VK} (h : tD K E e (dChain r r' da db dc) σ H Q) : tChain (rD K r) (rD K r') (tD K E e da) (tD K E e db) (tD K E e dc) σ H Q := by
    obtain ⟨δ, S, Z, q, t, h, k⟩ := h
    refine ⟨δ, S, Z, _, t, h, fun v x H1 S1 g1 x1 r1 h1 => ⟨δ, S1, Z, _, t.to g1 x1, h1, fun w y H2 S2 g2 x2 r2 h2 => ⟨x, y, S2, Z, _, g2, Rep.ext x2 _ _ r1, r2, h2, fun u z H3 S3 g3 x3 r3 h3 => ?_⟩⟩⟩
    obtain ⟨c, rfl, h4⟩ := h3
    refine ⟨c, r3, ?_⟩
    have x13 := x1.trans (x2.trans x3)
    cases c with
    | true => exact iteT ⟨δ, S3, Z, _, t.to g3 x13, h4, fun w' y' H4 S4 g4 x4 r4 h5 => ⟨y, y', S4, Z, q, g4, Rep.ext (x3.trans x4) _ _ r2, r4, h5, k.ext (x13.trans x4)⟩⟩
    | false => exact iteF (k _ (.bl false) H3 S3 g3 x13 rfl h4)
end
theorem ift_nt {A B : Prop} (h : B) : Ift (!true) A B := h
theorem ift_nf {A B : Prop} (h : A) : Ift (!false) A B := h
/-! names with addresses -/
section
variable {β : Type} {L : List (Str × (Addr × β))} {k : Str} {p b : Addr} {l : β}
end
section
variable {α : Type} {g : α → Dt} {L : List (Str × α)}
end
/-- a text or None -/
@[reducible] def oS : Option Str → Dt
  | none => .non
  | some z => .str z
/-! in -/
section
variable {S : Store} {q : DK} {α : Type} {f : α → Str} {L : List α} {a : Addr} {k : Str}
theorem strs_dat : areDat (L.map fun x => Dt.str (f x)) = true := areDat_of fun d hd => by
  obtain ⟨_, _, rfl⟩ := List.mem_map.mp hd
  rfl
end
/-! runs over a list, item by item -/
section
variable {keep : Store → Prop} {g : DTG} {b : DTS} {D : DEnds} {tt : DTT} {te : DTE} {q : List Dt → Store → Prop} {δ : DS} {l : List Dt} {S : Store} {it : DTL} {w : List Nat}
@[reducible] def forGo (keep : Store → Prop) (g : DTG) (b : DTS) (D : DEnds) : List Dt → DS → Store → Prop
  | [], δ, S => keep S ∧ D.nx δ S
  | d :: r, δ, S => keep S ∧ g d δ S fun δ' S' => b { D with nx := forGo keep g b D r, ct := forGo keep g b D r, bk := D.nx } δ' S'
theorem forGo_keep : ∀ {l : List Dt} {δ : DS} {S : Store}, forGo keep g b D l δ S → keep S
  | [], _, _, h => h.1
  | _ :: _, _, _, h => h.1
theorem for_go (h : forGo keep g b D l δ S) : ∃ I : Nat → DS → Store → Prop, I 0 δ S ∧ (∀ i δ S, i ≤ l.length → I i δ S → keep S) ∧
    (∀ i d δ S, l[i]? = some d → I i δ S → g d δ S fun δ' S' => b { D with nx := I (i + 1), ct := I (i + 1), bk := D.nx } δ' S') ∧ ∀ δ S, I l.length δ S → D.nx δ S := by
  refine ⟨fun i => forGo keep g b D (l.drop i), h, fun i δ S _ h => forGo_keep h, fun i d δ S e h => ?_, fun δ S h => ?_⟩
  · have e2 : l.drop i = d :: l.drop (i + 1) := by
      obtain ⟨hi, e⟩ := List.getElem?_eq_some_iff.mp e
      rw [List.drop_eq_getElem_cons hi, e]
    have h : forGo keep g b D (l.drop i) δ S := h
    rw [e2] at h
    exact h.2
  · have h : forGo keep g b D (l.drop l.length) δ S := h
    rw [List.drop_length] at h
    exact h.2
@[reducible] def lcGo (keep : Store → Prop) (g : DTG) (tt : DTT) (te : DTE) (q : List Dt → Store → Prop) (δ : DS) : List Dt → List Dt → Store → Prop
  | [], acc, S => keep S ∧ q acc S
  | d :: r, acc, S => keep S ∧ g d δ S fun δ' S' => tt δ' S' fun b S2 => Ift b (te δ' S2 fun y S3 => lcGo keep g tt te q δ r (acc ++ [y]) S3) (lcGo keep g tt te q δ r acc S2)
theorem lcGo_keep : ∀ {l acc : List Dt} {S : Store}, lcGo keep g tt te q δ l acc S → keep S
  | [], _, _, h => h.1
  | _ :: _, _, _, h => h.1
theorem lc_go (h : lcGo keep g tt te q δ l [] S) : ∃ I : Nat → List Dt → Store → Prop, I 0 [] S ∧ (∀ i acc S, i ≤ l.length → I i acc S → keep S) ∧
    (∀ i d acc S, l[i]? = some d → I i acc S → g d δ S fun δ' S' => tt δ' S' fun b S2 => Ift b (te δ' S2 fun y S3 => I (i + 1) (acc ++ [y]) S3) (I (i + 1) acc S2)) ∧ ∀ acc S, I l.length acc S → q acc S := by
  refine ⟨fun i => lcGo keep g tt te q δ (l.drop i), h, fun i acc S _ h => lcGo_keep h, fun i d acc S e h => ?_, fun acc S h => ?_⟩
  · have e2 : l.drop i = d :: l.drop (i + 1) := by
      obtain ⟨hi, e⟩ := List.getElem?_eq_some_iff.mp e
      rw [List.drop_eq_getElem_cons hi, e]
    have h : lcGo keep g tt te q δ (l.drop i) acc S := h
    rw [e2] at h
    exact h.2
  · have h : lcGo keep g tt te q δ (l.drop l.length) acc S := h
    rw [List.drop_length] at h
    exact h.2
/-- what changes nothing -/
theorem lcGo_pure {α : Type} (enc : α → Dt) (f : α → Option Dt) (hk : keep S) : ∀ (L : List α) (acc : List Dt), (∀ x ∈ L, ∀ (kY : Dt → Store → Prop) (kN : Store → Prop), (∀ y, f x = some y → kY y S) → (f x = none → kN S) → g (enc x) δ S fun δ' S' => tt δ' S' fun b S2 => Ift b (te δ' S2 kY) (kN S2)) →
    q (acc ++ L.filterMap f) S → lcGo keep g tt te q δ (L.map enc) acc S
  | [], acc, _, h => ⟨hk, by simpa using h⟩
  | x :: r, acc, st, h => ⟨hk, st x List.mem_cons_self _ _
      (fun y e => lcGo_pure enc f hk r (acc ++ [y]) (fun x' hx' => st x' (List.mem_cons_of_mem _ hx')) (by rw [List.filterMap_cons_some e] at h; rw [List.append_assoc]; exact h))
      (fun e => lcGo_pure enc f hk r acc (fun x' hx' => st x' (List.mem_cons_of_mem _ hx')) (by rw [List.filterMap_cons_none e] at h; exact h))⟩
end
/-! the dice of every law -/
def cRoll : DSp := fun ds S q _ => ∃ (d : Addr) (x n k m : Int), ds = [.ref d, .int m] ∧ S d = some (.lst [.int x, .int n, .int k]) ∧ (0 < m ∧ m ≤ 100000000) ∧
  ∀ r x' n' k' : Int, 0 ≤ r → r < m → q (.int r) (sput S d (.lst [.int x', .int n', .int k']))
def cDice : DSp := fun ds S q _ => ∃ c : Int, ds = [.int c] ∧ ∀ (p : Addr) (x n k : Int), S p = none → q (.ref p) (sput S p (.lst [.int x, .int n, .int k]))
def cRounds : DSp := fun ds S q _ => ∃ ns : List Int, ds = [.scr ns, .int 1] ∧ ns.length ≤ 10000 ∧ ∀ (p : Addr) (x n k : Int), S p = none → q (.lst [.ref p]) (sput S p (.lst [.int x, .int n, .int k]))
end Dn

/-! lists that are cells compared; sum(len(k) + len(v) for k, v in d.items()) -/
namespace Dn
open PySem PySem.Spec PyProof.Rows L2 Pr LamX
/-- a cell that is a list, as a list -/
@[reducible] def seeV (x : Dt) (S : Store) (k : Dt → Prop) : Prop := match x with
  | .ref a => ∃ l, S a = some (.lst l) ∧ k (.lst l)
  | x => k x
@[reducible] def dEqV : D2 := fun x y S q => seeV x S fun x' => seeV y S fun y' => dEq x' y' S q
@[reducible] def dNeV : D2 := fun x y S q => seeV x S fun x' => seeV y S fun y' => dNe x' y' S q
section
variable {X : Cx} {K : PySem.W.Frag} {Z H : Hp} {S : Store}
theorem seeV_of {d : Dt} {v : V} (g : Good K Z H S) (r : Rep K (out H S Z) d v) {k : Dt → Prop} (h : seeV d S k) : ∃ d', k d' ∧ (isDat d' = true → Dp K H v (py d') ∧ ((py d').depth ≤ 64 → SeqAt.shaped (py d') = true)) := by
  cases d with
  | ref a =>
    obtain ⟨l, h1, h2⟩ := h
    obtain ⟨o, h3, vs, rfl, h4⟩ := g.c a _ h1
    refine ⟨_, h2, fun hd => ⟨?_, fun hl => ?_⟩⟩
    · rw [show v = _ from r]
      exact .lst (SqL.of h3) (Reps.dp _ _ hd h4)
    · show ((py (.lst l)).canLay0 && decide ((py (.lst l)).depth ≤ 64)) = true
      rw [show (py (.lst l)).canLay0 = true from Reps.lay _ _ h4, decide_eq_true hl]
      rfl
  | _ => exact ⟨_, h, fun hd => ⟨Rep.dp _ _ hd r, fun hl => Rep.shaped r hl⟩⟩
theorem od_eqV (hK : X.K = K) (hu : X.A.units + 64 < cLine) : OpR X (compareOp .Eq) (rD K dEqV) := fun pins s σ H x y v u Q I rv ru ⟨dx, dy, S, Z, q, g, rx, ry, h, k⟩ => by
  subst hK
  obtain ⟨x', h, fx⟩ := seeV_of g rx h
  obtain ⟨y', ⟨⟨h1, h2, h3, h4⟩, h⟩, fy⟩ := seeV_of g ry h
  exact op_eqD hu pins s σ H x y v u Q I rv ru ⟨py x', py y', (fx h1).1, (fy h2).1, (fx h1).2 h3, (fy h2).2 h4, k.here g h rfl⟩
theorem od_neV (hK : X.K = K) (hu : X.A.units + 64 < cLine) : OpR X (compareOp .NotEq) (rD K dNeV) := fun pins s σ H x y v u Q I rv ru ⟨dx, dy, S, Z, q, g, rx, ry, h, k⟩ => by
  subst hK
  obtain ⟨x', h, fx⟩ := seeV_of g rx h
  obtain ⟨y', ⟨⟨h1, h2, h3, h4⟩, h⟩, fy⟩ := seeV_of g ry h
  exact op_neD hu pins s σ H x y v u Q I rv ru ⟨py x', py y', (fx h1).1, (fy h2).1, (fx h1).2 h3, (fy h2).2 h4, k.here g h rfl⟩
end
theorem Tells.neS {α : Type} [DecidableEq α] {f : α → Dt} {n : Nat} {S : Store} {q : DK} (t : Tells f n) (hn : n ≤ 64) {a : α} (h : q (.bl false) S) : dNe (f a) (f a) S q := t.ne hn (by rw [decide_eq_true rfl]; exact h)
theorem Tells.eqS {α : Type} [DecidableEq α] {f : α → Dt} {n : Nat} {S : Store} {q : DK} (t : Tells f n) (hn : n ≤ 64) {a : α} (h : q (.bl true) S) : dEq (f a) (f a) S q := t.eq hn (by rw [decide_eq_true rfl]; exact h)
section
variable {S : Store} {q : DK} {z : Str} {b : Bool} {i : Int}
theorem eq_strS (h : q (.bl true) S) : dEq (.str z) (.str z) S q := (tells_enc (α := Str)).eqS (Nat.zero_le _) h
theorem ne_strS (h : q (.bl false) S) : dNe (.str z) (.str z) S q := (tells_enc (α := Str)).neS (Nat.zero_le _) h
theorem eq_blS (h : q (.bl true) S) : dEq (.bl b) (.bl b) S q := (tells_enc (α := Bool)).eqS (Nat.zero_le _) h
theorem ne_blS (h : q (.bl false) S) : dNe (.bl b) (.bl b) S q := (tells_enc (α := Bool)).neS (Nat.zero_le _) h
theorem eq_nonS (h : q (.bl false) S) : dEq .non (.str z) S q := ⟨⟨rfl, rfl, Nat.zero_le _, Nat.zero_le _⟩, h⟩
theorem ne_nonS (h : q (.bl true) S) : dNe .non (.str z) S q := ⟨⟨rfl, rfl, Nat.zero_le _, Nat.zero_le _⟩, h⟩
theorem eq_blStr (h : q (.bl false) S) : dEq (.bl b) (.str z) S q := ⟨⟨rfl, rfl, Nat.zero_le _, Nat.zero_le _⟩, h⟩
theorem ne_blStr (h : q (.bl true) S) : dNe (.bl b) (.str z) S q := ⟨⟨rfl, rfl, Nat.zero_le _, Nat.zero_le _⟩, h⟩
end
/-! ## a def with a table of codes -/
theorem dfnC {P : Program} {w : World} {K : PySem.W.Frag} {mg : Str → Option Value} {base : Heap} {x qual : Str} {params : Arguments} {body : List Stmt} {scope : Scope} {dvs : List V} {f Pt : Addr} {fd : FuncData} {N ps : List Str} {k : Nat} {c : DSp} {kws : List (Str × V)} (n : Nat) (F : FunD K x qual params body scope dvs kws f fd) (S : FnScope N ps scope) (hT : ∀ c0, fd.code = .ref c0 → TabB base mg c0 Pt) (len : ∀ ds S q e, c ds S q e → ds.length = ps.length) (hn : N.length = n := by rfl)
    (run : ∀ (c0 : Addr) (A : Around) (outer : List Env) (s : Shared) (H : Hp) (E : XK) (e : DX), TabB base mg c0 Pt → Room k (A.deeper (envOfC qual scope s.heap.objs.size f (.ref c0))) →
      ∃ t, PSs (cxOf (L2.CX P w) P w K mg base N qual scope f (.ref c0) A outer s H E) body (tDS K E e t) ∧ ∀ ds S q, c ds S q e → t { nx := fun _ S => q .non S, rt := q } (startD n ds) S) : FnOk P w K mg base (L2.CX P w) (k + 1) f fd ps (spD K c) := by
  obtain ⟨oc, od, dV, kV, doc, pm, an, cdv, ct, osl, rfl, lk, hcd, _, _⟩ := F.ex
  obtain ⟨c0, rfl⟩ := He.codeIn_ref hcd
  have TB := hT c0 rfl
  refine fn_of lk hcd S (fun vs H Q E h => ?_) fun A outer s H vs Q E hr h => ?_
  · obtain ⟨ds, S, Z, q, e, g, r, l, h, k⟩ := h
    rw [← r.len]
    exact len ds S q e h
  · obtain ⟨ds, S', Z, q, e, g, r, l, h, kk⟩ := h
    obtain ⟨t, p, h2⟩ := run c0 A outer s H E e TB hr
    refine ⟨_, p, _, S', Z, _, ⟨g, ?_, l⟩, h2 ds S' q h, ?_⟩
    · rw [← hn]
      refine start_slots N ds vs r ?_
      rw [← r.len, len ds S' q e h]
      have := congrArg List.length S.pre
      rw [List.length_take] at this
      omega
    · exact ⟨fun σ δ H S g x s q => kk .non .non H S g x rfl q, fun v d H S g x r q => kk v d H S g x r q, fun _ _ _ _ _ _ _ h => h, fun _ _ _ _ _ _ _ h => h⟩
end Dn

/-! lambdas kept in a list -/
namespace Dn
open PySem PySem.Spec PyProof.Rows L2 Pr LamX NdefX
section
variable {X : Cx} {K : PySem.W.Frag} {E : XK} {e : DX}
/-! a comprehension whose test leans on the slots at its begin -/
end
end Dn

/-! the law's call -/
namespace Dn
open PySem PySem.Spec PyProof.Rows L2 Pr LamX NdefX
/-- what stands in the store at the law's begin: tables -/
def tabS (T : List (Addr × Cell)) : Store := fun b => (T.find? fun p => decide (p.1 = b)).map (·.2)
theorem tabS_mem {T : List (Addr × Cell)} {b : Addr} {c : Cell} (h : tabS T b = some c) : (b, c) ∈ T := by
  unfold tabS at h
  cases e : T.find? fun p => decide (p.1 = b) with
  | none => rw [e] at h; cases h
  | some p =>
    rw [e] at h
    cases h
    have h1 := List.mem_of_find?_eq_some e
    have h2 : p.1 = b := by simpa using List.find?_some e
    rw [← h2]
    exact h1
theorem tabS_at {T : List (Addr × Cell)} (nd : (T.map (·.1)).Nodup) : ∀ p ∈ T, tabS T p.1 = some p.2 := by
  unfold tabS
  induction T with
  | nil => intro p h; cases h
  | cons x r ih =>
    intro p hp
    rw [List.map_cons, List.nodup_cons] at nd
    rw [List.find?_cons]
    rcases List.mem_cons.mp hp with rfl | hp
    · rw [decide_eq_true rfl]; rfl
    · have n : ¬ x.1 = p.1 := fun e => nd.1 (by rw [e]; exact List.mem_map.mpr ⟨p, hp, rfl⟩)
      rw [decide_eq_false n]
      exact ih nd.2 p hp
theorem law_start {K : PySem.W.Frag} {T : List (Addr × Cell)} {H : Hp} {a : Addr} {ns : List Int} {c : DSp} (hT : ∀ p ∈ T, H p.1 = some (.tbl #[]) ∧ ((∃ q, p.2 = .tbl q) ∨ p.2 = .gtb)) (hS : SqL K H a (ns.map V.int))
    (h : ∀ (q : DK), (∀ S', q (.bl true) S') → c [.scr ns] (tabS T) q noX) : spD K c [.ref a] H (fun v _ => v = .bl true) (fun _ _ _ => False) := by
  refine ⟨[.scr ns], tabS T, fun _ => none, fun v _ => v = .bl true, noX, ⟨fun b o z => (by cases z), fun b x hx => ?_⟩, ?_, lk_no, h _ fun _ => rfl, fun v d H' S' g x r q => ?_⟩
  · obtain ⟨h1, h2⟩ := hT _ (tabS_mem hx)
    rcases h2 with ⟨q, h2⟩ | h2
    · rw [show x = .tbl q from h2]
      exact ⟨_, h1, #[], rfl, trivial, fun pos cv z => by cases z⟩
    · rw [show x = .gtb from h2]
      exact ⟨_, h1, #[], rfl, trivial, fun pos cv z => by cases z⟩
  · refine ⟨.ref a, [], rfl, ⟨a, rfl, ?_⟩, rfl⟩
    have free : ∀ o, H a = some o → (∀ ps, o ≠ .tbl ps) → out H (tabS T) (fun _ => none) a = some o := fun o ho n => by
      refine (out_of ?_ rfl).trans ho
      cases e : tabS T a with
      | none => rfl
      | some x =>
        have := (hT _ (tabS_mem e)).1
        rw [ho] at this
        exact absurd (Option.some.inj this) (n _)
    rcases hS with (z | ⟨o, z⟩) | z
    · exact .inl (.inl (free _ z fun ps e => by cases e))
    · exact .inl (.inr ⟨o, free _ z fun ps e => by cases e⟩)
    · exact .inr z
  · rw [show d = .bl true from q] at r
    exact r
theorem tab_at {K : PySem.W.Frag} {base : Heap} {mg : Str → Option Value} {p : Str × Option Str} {oc : Value} {od : Option Addr} {osl : Array (Option Value)} {fd : FuncData} {c : Addr} (lk : K.lookup (He.fAd K p) = some ⟨oc, od, .func fd, osl⟩) (TB : TabB base mg (He.cT K p).1 (He.cT K p).2) (e : fd.code = .ref c) : TabB base mg c (He.cT K p).2 := by
  have e1 : He.codeOf K p = c := He.codeOf_eq (p := p) lk e
  rw [show (He.cT K p).1 = c from e1] at TB
  exact TB
end Dn

/-! any, all, tuple over generator expressions -/
namespace Dn
open PySem PySem.Spec PyProof.Rows L2 Pr LamX NdefX
section
variable {K : PySem.W.Frag} {Z H H1 : Hp} {S : Store} {P : Addr}
theorem good_gtb (g : Good K Z H S) (hS : S P = some .gtb) {code : Value} (x : GrowK P H H1 code) : Good K Z H1 S ∧ Ext (out H S Z) (out H1 S Z) ∧ ∃ c P', code = .ref c ∧ Rep K (out H1 S Z) (.gco c P') (.ref c) := by
  obtain ⟨⟨ps, t1, t2, t3⟩, ⟨c, P', rfl, c1, c2⟩, x⟩ := x
  have nP : ∀ φ, H1 P ≠ some (.ext φ) := fun φ z => by rw [t1] at z; cases z
  obtain ⟨g1, e1⟩ := good_only g x hS fun _ => ⟨_, t1, ps, rfl, t2, fun pos cv hcv => by
    obtain ⟨c', P'', e1, e2, e3⟩ := t3 pos cv hcv
    exact ⟨c', P'', e1, out_ext g x nP e2, out_ext g x nP e3⟩⟩
  exact ⟨g1, e1, c, P', rfl, rfl, out_ext g x nP c1, out_ext g x nP c2⟩
theorem tabK_of (g : Good K Z H S) (hS : S P = some .gtb) : TabK H P := by
  obtain ⟨o, h1, ps, rfl, h2, h3⟩ := g.c _ _ hS
  exact ⟨ps, h1, h2, fun pos cv hc => by
    obtain ⟨c, P', e1, e2, e3⟩ := h3 pos cv hc
    exact ⟨c, P', e1, out_le e2, out_le e3⟩⟩
end
/-- the slot that keeps the code object -/
@[reducible] def gho : Option Nat → Dt → DS → DS
  | some i, d, δ => putS δ i d
  | none, _, δ => δ
theorem wipe_ghost {σ : L2.St} {vs : List Nat} {ig : Option Nat} {code : Value} (h : ∀ i, ig = some i → i ∉ vs) : wipe (ghost ig code (wipe σ vs)) vs = ghost ig code (wipe σ vs) := by
  have comm : ∀ (ws : List Nat) (τ : L2.St) (i : Nat) (x : Option V), i ∉ ws → wipe (τ.set i x) ws = (wipe τ ws).set i x := fun ws τ i x hi => by
    induction ws with
    | nil => rfl
    | cons w ws ih =>
      show (wipe (τ.set i x) ws).set w none = ((wipe τ ws).set w none).set i x
      rw [ih (fun m => hi (List.mem_cons_of_mem _ m)), List.set_comm _ _ (fun z => hi (by rw [z]; exact List.mem_cons_self))]
  unfold ghost
  split
  · rename_i i c
    rw [comm vs _ i _ (h i rfl), lc_run.wipe_wipe]
  · exact lc_run.wipe_wipe
theorem slots_gho {K : PySem.W.Frag} {G : Hp} {σ : L2.St} {δ : DS} (h : Slots K G σ δ) {ig : Option Nat} {c P : Addr} (r : Rep K G (.gco c P) (.ref c)) : Slots K G (ghost ig (.ref c) σ) (gho ig (.gco c P) δ) := by
  cases ig with
  | none => exact h
  | some i => exact h.put r
@[reducible] def stopIf (stop k : Bool) (A B : Prop) : Prop := match stop with
  | true => Ift k A B
  | false => Ift k B A
/-- the turns of any (stop = true), all -/
def dAnyT (δw : DS) (stop : Bool) (g : DTG) (tt : DTT) (te : DTE) (l : List Dt) (keep : Store → Prop) (q : DK) (S1 : Store) : Prop := ∃ I : Nat → Store → Prop, I 0 S1 ∧ (∀ i S, i ≤ l.length → I i S → keep S) ∧
  (∀ i d S, l[i]? = some d → I i S → g d δw S fun δ' S' => tt δ' S' fun b S2 => Ift b (te δ' S2 fun y S3 => ∃ k, y = .bl k ∧ stopIf stop k (q (.bl stop) S3) (I (i + 1) S3)) (I (i + 1) S2)) ∧ ∀ S, I l.length S → q (.bl (!stop)) S
section
variable {K : PySem.W.Frag}
theorem any_turns {J : It} {l : List Dt} {keep : Store → Prop} {Z H2 : Hp} {S1 : Store} {σw : L2.St} {δw : DS} {vs : List Nat} {g : DTG} {tt : DTT} {te : DTE} {q : DK} {Q : VK} {stop : Bool} {G0 : Hp} (ok : ItOk K G0 J l keep) (x0 : Ext G0 (out H2 S1 Z)) (gd : Good K Z H2 S1) (sl : Slots K (out H2 S1 Z) σw δw) (hw : wipe σw vs = σw)
    (h : dAnyT δw stop g tt te l keep q S1) (k : Ty K Z H2 S1 q Q) : ∃ W : Nat → Nat → Hp → Prop, (∃ m, W 0 m H2) ∧ TnW J (tGw K vs g) (tDT K E0 noX tt) (tD K E0 noX te) vs σw (fun y H4 Nx => ∃ b, y = .bl b ∧ if b = stop then Q (.bl stop) H4 else Nx H4) (Q (.bl (!stop))) W := by
  obtain ⟨I, h0, hk, hs, hd⟩ := h
  refine ⟨fun i m H => m = l.length - i ∧ i ≤ l.length ∧ ∃ S, Good K Z H S ∧ Ext (out H2 S1 Z) (out H S Z) ∧ I i S, ⟨_, rfl, Nat.zero_le _, S1, gd, Ext.refl, h0⟩, fun i m H ⟨hm, hi, S, g1, x1, q1⟩ => ?_⟩
  by_cases e : i = l.length
  · subst e
    exact .inl ⟨ok.stop Z H S g1 (x0.trans x1) (hk _ S hi q1), k (.bl (!stop)) (.bl (!stop)) H S g1 x1 rfl (hd S q1)⟩
  · have hi2 : i < l.length := by omega
    refine .inr ⟨ok.go Z i H S g1 (x0.trans x1) (hk i S hi q1) hi2, fun H' => ∃ S', Good K Z H' S' ∧ Ext (out H2 S1 Z) (out H' S' Z) ∧ I (i + 1) S', fun H' ⟨S', g', x', q'⟩ => ⟨l.length - (i + 1), by omega, rfl, by omega, S', g', x', q'⟩, fun x H' y => ?_⟩
    obtain ⟨d, e1, g3, x3, r3⟩ := ok.yld Z i H S x H' g1 (x0.trans x1) (hk i S hi q1) hi2 y
    have x13 := x1.trans x3
    refine ⟨d, δw, S, Z, _, g3, sl.ext x13, r3, hs i d S e1 q1, fun σ' δ' H4 S4 w4 g4 x4 s4 h4 => ⟨w4.trans hw, δ', S4, Z, _, ⟨g4, s4, lk_no⟩, h4, fun b H5 S5 g5 x5 h5 => ?_⟩⟩
    have x15 := x13.trans (x4.trans x5)
    cases b with
    | false => exact iteF ⟨S5, g5, x15, h5⟩
    | true =>
      refine iteT ⟨δ', S5, Z, _, ⟨g5, s4.ext x5, lk_no⟩, h5, fun v z H6 S6 g6 x6 r6 h6 => ?_⟩
      obtain ⟨b, rfl, h6⟩ := h6
      refine ⟨b, r6, ?_⟩
      have x16 := x15.trans x6
      cases stop <;> cases b
      · rw [if_pos rfl]
        exact k (.bl false) (.bl false) H6 S6 g6 x16 rfl h6
      · rw [if_neg (by decide)]
        exact ⟨S6, g6, x16, h6⟩
      · rw [if_neg (by decide)]
        exact ⟨S6, g6, x16, h6⟩
      · rw [if_pos rfl]
        exact k (.bl true) (.bl true) H6 S6 g6 x16 rfl h6
end
/-! rules: at the top of a def (its table P), and within another generator expression (slot iq keeps the code object) -/
@[reducible] def dAnyG (P : Addr) (ig : Option Nat) (stop : Bool) (it : DTL) (g : DTG) (w : List Nat) (tt : Value → DTT) (te : Value → DTE) : DTE := fun δ S q => it δ S fun l keep S1 => S1 P = some .gtb ∧ ∀ c P', dAnyT (gho ig (.gco c P') (wipesS δ w)) stop g (tt (.ref c)) (te (.ref c)) l keep q S1
section
variable {X : Cx} {K : PySem.W.Frag} {E : XK} {e : DX} {elt tg iter : Expr} {ifs : List Expr} {scope : Scope} {gpos p pos : Pos} {own : List (Str × Nat)} {it : DTL} {g : DTG} {tt : Value → DTT} {te : Value → DTE} {ti : DTT} {ei : DTE} {k : Nat} {ig : Option Nat} {P0 P c iq : Addr} {nm : Str} {stop : Bool}
/-- the body's parts over deep values -/
structure GnP (X : Cx) (K : PySem.W.Frag) (k : Nat) (scope : Scope) (vs : List Nat) (elt tg : Expr) (ifs : List Expr) (g : DTG) (tt : Value → DTT) (te : Value → DTE) : Prop where
  g : ∀ (s : Shared) (H : Hp) (A' : Around) (cl : List (Str × Addr)) (L : Addr) (code : Value) (fp : List Addr), Room k A' → PG (gnC X s H A' (genEnv scope cl L code builtinsNs X.env) fp) tg (tGw K vs g)
  t : ∀ (s : Shared) (H : Hp) (A' : Around) (cl : List (Str × Addr)) (L : Addr) (code : Value) (fp : List Addr), Room k A' → PTs (gnC X s H A' (genEnv scope cl L code builtinsNs X.env) fp) ifs (tDT K E0 noX (tt code))
  e : ∀ (s : Shared) (H : Hp) (A' : Around) (cl : List (Str × Addr)) (L : Addr) (code : Value) (fp : List Addr), Room k A' → PE (gnC X s H A' (genEnv scope cl L code builtinsNs X.env) fp) elt (tD K E0 noX (te code))
theorem GnP.parts {vs : List Nat} (h : GnP X K k scope vs elt tg ifs g tt te) : GnParts X k scope elt tg ifs (tGw K vs g) (fun c => tDT K E0 noX (tt c)) (fun c => tD K E0 noX (te c)) := ⟨h.g, h.t, h.e⟩
theorem de_anyG (hK : X.K = K) (hnm : (nm = "any" ∧ stop = true) ∨ (nm = "all" ∧ stop = false)) (hr : Room (k + 3) X.A) (hgl : Gl X nm) (hm : X.mg nm = none) (TB : TabB X.base X.mg c P) (hcode : X.env.code = .ref c) (hN : X.N.Nodup) (ok : gnB X.N X.env.scope scope own = true)
    (hig : ∀ i, ig = some i → i ∉ snds own ∧ ∀ x, X.N[i]? = some x → ¬ Vis scope x) (hi : PI X tg iter (tDI K E e it)) (hs : ∀ v, genFold iter X.env v = pure v) (pt : GnP X K k scope (snds own) elt tg ifs g tt te)
    (hst : starEach [.GeneratorExp elt [⟨tg, iter, ifs, 0⟩] scope gpos] X.env = (false, eval (.GeneratorExp elt [⟨tg, iter, ifs, 0⟩] scope gpos) X.env) :: starEach [] X.env := by rfl) :
    PE X (.Call (.Name nm p) [.GeneratorExp elt [⟨tg, iter, ifs, 0⟩] scope gpos] [] pos) (tD K E e (dAnyG P ig stop it g (snds own) tt te)) := by
  subst hK
  refine PE.imp (pe_gnAny (ig := ig) (own := own) stop nm hnm hr hgl hm TB.bm (codeStep_top hcode TB.code) hN (gnOk_by ok) (fun i e => (hig i e).2) hi hs pt.parts hst) fun σ H Q h => ?_
  obtain ⟨δ, S, Z, q, t, h, kk⟩ := h
  refine ⟨δ, S, Z, _, t, h, fun l keep H1 S1 J g1 x1 ok' h1 => ?_⟩
  obtain ⟨hP, h1⟩ := h1
  refine ⟨tabK_of g1 hP, fun H2 code gr => ?_⟩
  obtain ⟨g2, x2, c', P', rfl, rc⟩ := good_gtb g1 hP gr
  have sl := slots_gho (ig := ig) (slots_wipes (t.sl.ext (x1.trans x2)) (snds own)) rc
  rw [← snds_eq]
  exact any_turns ok' x2 g2 sl (wipe_ghost fun i e => (hig i e).1) (h1 c' P') (kk.ext (x1.trans x2))
end
end Dn

/-! texts' methods, f-strings, int and str -/
namespace Dn
open PySem PySem.Spec PyProof.Rows L2 Pr LamX NdefX
open PySem.Builtin.Str (strSub partsBetween glued)
theorem SOk.strSub {a : Str} (h : SOk a) (i j : Nat) : SOk (Builtin.Str.strSub a i j) := by
  have e := StrLaws.strSub_toList a i j
  refine h.sub (fun c hc => ?_) ?_
  · rw [e] at hc
    exact List.mem_of_mem_drop (List.mem_of_mem_take hc)
  · rw [len_cps, len_cps, e]
    rw [List.length_take, List.length_drop]
    omega
theorem SOk.parts {a : Str} (h : SOk a) (cuts : List Nat) (w : Nat) : ∀ x ∈ Builtin.Str.partsBetween a cuts w, SOk x := fun x hx => by
  unfold Builtin.Str.partsBetween at hx
  obtain ⟨p, _, rfl⟩ := List.mem_map.mp hx
  exact h.strSub _ _
theorem SOk.split {a : Str} (h : SOk a) (b : Str) : ∀ x ∈ Txt.split a b, SOk x := fun x hx => by
  unfold Txt.split at hx
  split at hx
  · rw [List.mem_singleton.mp hx]; exact h
  · split at hx
    · rw [List.mem_singleton.mp hx]; exact h
    · exact h.parts _ _ x hx
theorem SOk.strip {a : Str} (h : SOk a) : SOk (Txt.strip a) := by
  unfold Txt.strip Txt.stripBy
  split
  · exact h
  · exact h.strSub _ _
theorem SOk.words {a : Str} (h : SOk a) : ∀ x ∈ Txt.words a, SOk x := fun x hx => by
  unfold Txt.words at hx
  split at hx
  · rw [List.mem_singleton.mp hx]; exact h
  · unfold wordsOf at hx
    obtain ⟨p, _, rfl⟩ := List.mem_map.mp hx
    exact h.strSub _ _
section
variable {K : PySem.W.Frag} {Z H : Hp} {S : Store}
theorem reps_strs {G : Hp} : ∀ {ys : List Str}, (∀ y ∈ ys, SOk y) → Reps K G (ys.map Dt.str) (ys.map V.str)
  | [], _ => rfl
  | y :: r, h => ⟨.str y, r.map V.str, rfl, ⟨rfl, h y List.mem_cons_self⟩, reps_strs fun z hz => h z (List.mem_cons_of_mem _ hz)⟩
theorem strs_of {G : Hp} : ∀ {ys : List Str} {vs : List V}, Reps K G (ys.map Dt.str) vs → vs = ys.map V.str ∧ ∀ y ∈ ys, SOk y
  | [], vs, h => ⟨h, fun y hy => by cases hy⟩
  | y :: r, vs, h => by
    obtain ⟨v, w, rfl, h1, h2⟩ := h
    obtain ⟨rfl, h3⟩ := strs_of (ys := r) h2
    rw [h1.1]
    exact ⟨rfl, fun z hz => (List.mem_cons.mp hz).elim (fun e => by rw [e]; exact h1.2) (h3 z)⟩
end
/-! readings -/
@[reducible] def rmSplit1 : DMr := fun x ds S q => match x, ds with
  | .str a, [.str b] => (b.length == 0) = false ∧ a.length + 2 ≤ sizeLine ∧ q (.lst ((Txt.split a b).map Dt.str)) S
  | _, _ => False
/-- the texts of a list or a tuple -/
def rmJoin : DMr := fun x ds S q => match x, ds with
  | .str a, [y] => seeQ y S fun l => ∃ ys : List Str, l = ys.map Dt.str ∧ ((ys.map (·.length)).sum + ys.length * a.length ≤ 16777216 ∧ SOk (Txt.join a ys)) ∧ q (.str (Txt.join a ys)) S
  | _, _ => False
section
variable {X : Cx} {K : PySem.W.Frag} {E : XK} {e : DX}
theorem md_split1 : MtR X "str.split" (rDM K rmSplit1) := fun pins s σ H x xs v us Q I rx r ⟨d, ds, S, Z, q, g, rd, rs, h, k⟩ => by
  match d, ds, h with
  | .str a, [.str b], h =>
    obtain ⟨w, rfl, rw'⟩ := reps1 rs
    exact mt_split pins s σ H x _ v us Q I rx r ⟨a, b, rd.1, by rw [rw'.1], h.1, h.2.1, fun p np => k.new g np h.2.2 ⟨p, _, rfl, out_new g np, reps_strs (SOk.split rd.2 b)⟩⟩
theorem md_join (hK : X.K = K) : MtR X "str.join" (rDM K rmJoin) := fun pins s σ H x xs v us Q I rx r ⟨d, ds, S, Z, q, g, rd, rs, h, k⟩ => by
  subst hK
  match d, ds, h with
  | .str a, [y], h =>
    obtain ⟨w, rfl, rw'⟩ := reps1 rs
    obtain ⟨p, vs, l, rfl, hs, hl, ys, rfl, hz, hq⟩ := see_seq g rw' h
    obtain ⟨rfl, _⟩ := strs_of hl
    exact mt_join pins s σ H x _ v us Q I rx r ⟨a, p, ys, rd.1, rfl, hs, hz.1, k.here g hq ⟨rfl, hz.2⟩⟩
/-! f-strings -/
@[reducible] def dFmt (a : DTE) : DTE := fun δ S q => a δ S fun x S1 => match x with
  | .str z => q (.str z) S1
  | .int i => (i.natAbs.log2 < 1920 ∧ SOk (toString i)) ∧ q (.str (toString i)) S1
  | _ => False
theorem de_fmt {a : Expr} {da : DTE} {pos : Pos} (h : PE X a (tD K E e da)) : PE X (.FormattedValue a (-1) none pos) (tD K E e (dFmt da)) := PE.imp (pe_fmt h) fun σ H Q h => by
  refine tD_seq h fun v x δ S Z H1 q t r h k => ?_
  cases x with
  | str z => exact .inl ⟨z, r.1, r.2.len, k.here t.good h ⟨rfl, r.2⟩⟩
  | int i => exact .inr ⟨i, r, h.1.1, k.here t.good h.2 ⟨rfl, h.1.2⟩⟩
  | _ => exact h.elim
inductive PJD (X : Cx) (K : PySem.W.Frag) (E : XK) (e : DX) : List Expr → List DTE → Prop where
  | nil : PJD X K E e [] []
  | cons {a : Expr} {t : DTE} {es : List Expr} {ts : List DTE} (h : PE X a (tD K E e t)) (r : PJD X K E e es ts) : PJD X K E e (a :: es) (t :: ts)
@[reducible] def dJs : List DTE → Str → DS → Store → (Str → Store → Prop) → Prop
  | [], acc, _, S, q => q acc S
  | t :: ts, acc, δ, S, q => t δ S fun x S1 => match x with
    | .str y => (acc.length + y.length ≤ sizeLine) ∧ dJs ts (acc ++ y) δ S1 q
    | _ => False
@[reducible] def dJoined (ts : List DTE) : DTE := fun δ S q => dJs ts "" δ S fun z S1 => q (.str z) S1
theorem PJD.pj {es : List Expr} {ts : List DTE} (h : PJD X K E e es ts) : PJ X es (ts.map (tD K E e)) := by
  induction h with
  | nil => exact .nil
  | cons h _ ih => exact .cons h ih
theorem de_joined {v1 v2 : Expr} {rest : List Expr} {ts : List DTE} {pos : Pos} (h : PJD X K E e (v1 :: v2 :: rest) ts) : PE X (.JoinedStr (v1 :: v2 :: rest) pos) (tD K E e (dJoined ts)) := PE.imp (pe_joined h.pj) fun σ H Q hq => by
  obtain ⟨δ, S, Z, q, t, hd, k⟩ := hq
  have go : ∀ (ts : List DTE) (acc : Str) (H1 : Hp) (S1 : Store), SOk acc → Good K Z H1 S1 → Ext (out H S Z) (out H1 S1 Z) → dJs ts acc δ S1 (fun z S1 => q (.str z) S1) → tJs (ts.map (tD K E e)) acc σ H1 fun out H1 => Q (.str out) H1 := fun ts => by
    induction ts with
    | nil => intro acc H1 S1 sa g x h; exact k _ (.str acc) H1 S1 g x ⟨rfl, sa⟩ h
    | cons t0 ts ih =>
      intro acc H1 S1 sa g x h
      refine ⟨δ, S1, Z, _, t.to g x, h, fun v y H2 S2 g2 x2 r2 h2 => ?_⟩
      cases y with
      | str y =>
        obtain ⟨h3, h4⟩ := h2
        exact ⟨y, r2.1, by rw [app_len]; exact h3, ih (acc ++ y) H2 S2 (sa.app r2.2 h3) g2 (x.trans x2) h4⟩
      | _ => exact h2.elim
  exact go ts _ H S SOk.empty t.good Ext.refl hd
end
end Dn

/-! constants of the module: dicts with texts as keys, tuples; equal dicts of data -/
namespace Dn
open PySem PySem.Spec PyProof.Rows L2 Pr LamX NdefX
/-! the top's run asks the world's rows: by cases -/
def ftW (L : List (String × Bool)) (w : World) : World := { w with params := { w.params with followText := fun s => match L.lookup s with
  | some b => b
  | none => w.params.followText s } }
theorem ftW_eq {w : World} : ∀ {L : List (String × Bool)}, (∀ p ∈ L, w.params.followText p.1 = p.2) → ftW L w = w := fun {L} h => by
  have e : (fun s => match L.lookup s with
    | some b => b
    | none => w.params.followText s) = w.params.followText := by
    funext s
    induction L with
    | nil => rfl
    | cons p r ih =>
      obtain ⟨a, b⟩ := p
      rw [List.lookup_cons]
      by_cases hs : s = a
      · subst hs
        simp only [beq_self_eq_true]
        exact (h (s, b) List.mem_cons_self).symm
      · rw [show (s == a) = false from by simpa using hs]
        exact ih fun p hp => h p (List.mem_cons_of_mem _ hp)
  unfold ftW
  rw [e]
/-- a constant's value -/
@[reducible] def dvD : He.Dv → Dt
  | .bl b => .bl b
  | .int i => .int i
  | .str z => .str z
  | _ => .non
def sokB (z : Str) : Bool := decide (z.length ≤ sizeLine) && PySem.PyData.strOk z
def dvOk : He.Dv → Bool
  | .non => true
  | .bl _ => true
  | .int _ => true
  | .str z => sokB z
  | _ => false
theorem sokB_ok {z : Str} (h : sokB z = true) : SOk z := by
  unfold sokB at h
  rw [Bool.and_eq_true, decide_eq_true_iff] at h
  exact ⟨h.1, h.2⟩
theorem rep_dv {K : PySem.W.Frag} {G : Hp} {d : He.Dv} (h : dvOk d = true) : Rep K G (dvD d) (d.v K) := by
  cases d with
  | str z => exact ⟨rfl, sokB_ok h⟩
  | non => rfl
  | bl b => rfl
  | int i => rfl
  | _ => cases h
theorem reps_dv {K : PySem.W.Frag} {G : Hp} : ∀ {l : List He.Dv}, l.all dvOk = true → Reps K G (l.map dvD) (l.map (He.Dv.v K))
  | [], _ => rfl
  | d :: l, h => by
    rw [List.all_cons, Bool.and_eq_true] at h
    exact ⟨_, _, rfl, rep_dv h.1, reps_dv h.2⟩
/-- a tuple of the module -/
theorem rep_tup {K : PySem.W.Frag} {a : Addr} {l : List He.Dv} (h : ∀ H, SqT K H a (l.map (He.Dv.v K))) (ok : l.all dvOk = true := by decide +kernel) : ∀ G, Rep K G (.tup (l.map dvD)) (.ref a) := fun G => ⟨a, _, rfl, h G, reps_dv ok⟩
/-- a dict of the module with texts as keys -/
structure KdX (K : PySem.W.Frag) (w : World) (a : Addr) (kvs : List (Str × He.Dv)) : Prop where
  kd : ∃ es n, KDict K w a es n
  ok : kvs.all (fun p => dvOk p.2) = true
  get : ∀ z d, aGet kvs z = some d → ∃ u, PySem.W.nsIn K a z = some (some u) ∧ RelV (d.v K) u
  no : ∀ z, aGet kvs z = none → PySem.W.nsIn K a z = some none
theorem tabW {fa : List He.Fa} {fn : List He.DefD} {ts : List He.Tab} {w : World} {K : PySem.W.Frag} (c : He.SaysT fa fn ts w K) (i : Nat) {t : He.Tab} (h : ts[i]? = some t := by rfl) : He.dicW K (t.1 K) = some (He.keysIn w.params t.2) := by
  have e : ts.map (fun t => He.dicW K (t.1 K)) = ts.map fun t => some (He.keysIn w.params t.2) := congrArg (fun z : He.AlT => z.2) c
  have e2 : (ts.map fun t => He.dicW K (t.1 K))[i]? = (ts.map fun t => some (He.keysIn w.params t.2))[i]? := by rw [e]
  rw [List.getElem?_map, List.getElem?_map, h] at e2
  exact Option.some.inj e2
theorem ents_none {P : Params} {z : Str} : ∀ {l : List DictEntry} {ks : List Str}, l.map He.keyOf = He.keysIn P ks → z ∉ ks → l.find? (fun e => e.key.isStr z) = none ∧ l.any (·.refKey) = false
  | [], _, _, _ => ⟨rfl, rfl⟩
  | e :: r, [], h, _ => by cases h
  | e :: r, k :: ks, h, n => by
    have h1 : He.keyOf e :: r.map He.keyOf = some (k, PyData.keyHash P k) :: He.keysIn P ks := h
    injection h1 with h2 h3
    obtain ⟨i1, i2⟩ := ents_none h3 fun m => n (List.mem_cons_of_mem _ m)
    unfold He.keyOf at h2
    split at h2
    · rename_i x t q
      obtain ⟨h5, _⟩ := Prod.mk.inj (Option.some.inj h2)
      subst h5
      have ne : (x == z) = false := by
        cases hb : x == z with
        | false => rfl
        | true => exact absurd List.mem_cons_self (by rw [← eq_of_beq hb] at n; exact n)
      refine ⟨?_, ?_⟩
      · rw [List.find?_cons, q]
        show (match x == z with | true => some e | false => r.find? _) = none
        rw [ne]
        exact i1
      · rw [List.any_cons, i2]
        show (e.refKey || false) = false
        unfold DictEntry.refKey
        rw [q]
        rfl
    · cases h2
theorem dicW_none {K : PySem.W.Frag} {w : World} {a : Addr} {ks : List Str} {z : Str} (h : He.dicW K a = some (He.keysIn w.params ks)) (hz : z ∉ ks) : PySem.W.nsIn K a z = some none := by
  unfold He.dicW at h
  unfold PySem.W.nsIn
  split at h
  · rename_i c es n sl e
    rw [e]
    split at h
    · obtain ⟨h1, h2⟩ := ents_none (Option.some.inj h) hz
      show (match es.toList.find? (fun e => e.key.isStr z) with
        | some e => some (some e.val)
        | none => if es.toList.any (·.refKey) then none else some none) = some none
      rw [h1, h2]
      rfl
    · cases h
  · cases h
theorem kdx_of {K : PySem.W.Frag} {w : World} {a : Addr} {kvs : List (Str × He.Dv)} (hd : He.dicW K a = some (He.keysIn w.params (kvs.map (·.1)))) (hv : He.valsB K a kvs = true) (ok : kvs.all (fun p => dvOk p.2) = true := by decide +kernel) : KdX K w a kvs :=
  ⟨He.dicW_ok hd, ok, fun z d h => He.valsB_ok hv (q := (z, d)) (aGet_mem h), fun z h => dicW_none hd fun hm => by
    obtain ⟨⟨k, v⟩, hp, rfl⟩ := List.mem_map.mp hm
    exact aGet_none.mp h v hp⟩
section
variable {X : Cx} {K : PySem.W.Frag} {E : XK} {e : DX} {a b : Expr} {da db : DTE} {pos : Pos} {d : Addr} {kvs : List (Str × He.Dv)}
@[reducible] def rNinK (d : Addr) (kvs : List (Str × He.Dv)) : D2 := fun x y S q => match x, y with
  | .str z, .ref a => a = d ∧ q (.bl (!(aGet kvs z).isSome)) S
  | _, _ => False
@[reducible] def rIxK (d : Addr) (kvs : List (Str × He.Dv)) : D2 := fun x y S q => match x, y with
  | .ref a, .str z => a = d ∧ ∃ v, aGet kvs z = some v ∧ q (dvD v) S
  | _, _ => False
theorem kdx_ns (k : KdX K X.w d kvs) (z : Str) : ∃ r, PySem.W.nsIn K d z = some r ∧ r.isSome = (aGet kvs z).isSome := by
  cases e : aGet kvs z with
  | none => exact ⟨none, k.no z e, rfl⟩
  | some v =>
    obtain ⟨u, h1, _⟩ := k.get z v e
    exact ⟨some u, h1, rfl⟩
theorem od_notinK (hK : X.K = K) (kd : KdX K X.w d kvs) : OpR X (compareOp .NotIn) (rD K (rNinK d kvs)) := fun pins s σ H x y v u Q I rv ru ⟨dx, dy, S, Z, q, g, rx, ry, h, k⟩ => by
  subst hK
  match dx, dy, h with
  | .str z, .ref a, h =>
    obtain ⟨rfl, hq⟩ := h
    obtain ⟨es, n, D⟩ := kd.kd
    obtain ⟨r, h1, h2⟩ := kdx_ns kd z
    exact op_notIn_kd D pins s σ H x y v u Q I rv ru ⟨z, r, rx.1, ry, h1, by rw [h2]; exact k.here g hq rfl⟩
theorem ix_K (hK : X.K = K) (kd : KdX K X.w d kvs) : IxR X (rD K (rIxK d kvs)) := by
  subst hK
  intro value slice pins s σ H x y v u Q I rv ru h sub
  obtain ⟨dx, dy, S, Z, q, g, rx, ry, h, k⟩ := h
  match dx, dy, h with
  | .ref a, .str z, h =>
    obtain ⟨rfl, d, hd, hq⟩ := h
    obtain ⟨es, n, D⟩ := kd.kd
    obtain ⟨u0, h1, h2⟩ := kd.get z d hd
    refine ix_kdict value slice pins s σ H x y v u Q I rv ru ⟨a, z, d.v X.K, rx, ry.1, ⟨es, n, u0, D.at_, D.lit, h1, h2⟩, k.here g hq (rep_dv ?_)⟩ sub
    exact List.all_eq_true.mp kd.ok (z, d) (aGet_mem hd)
theorem de_ixK (hK : X.K = K) (kd : KdX K X.w d kvs) (ha : PE X a (tD K E e da)) (hb : PE X b (tD K E e db)) (hs : PlainIx b := by exact fun _ _ => rfl) : PE X (.Subscript a b pos) (tD K E e (dOp (rIxK d kvs) da db)) := PE.imp (pe_ix (ix_K hK kd) ha hb hs) fun _ _ _ h => tD_op h
/-! generator expressions: tests -/
theorem gnB_of {N : List Str} {sc scope : Scope} {own : List (Str × Nat)} (h : gnB N sc scope own = true) : gnB N sc scope own = true := h
/-! equal dicts of data -/
end
end Dn

namespace K05
open PySem PySem.Spec PyProof.Rows L2 Pr Dn
def top (i : Nat) : Stmt := PySem.Challenge.pw_pagestack_k05_lines_that_are_broken.main.body.getD i (.Pass ⟨0, 0, 0, 0⟩)
abbrev s_wall : Stmt := top 0
abbrev s_Line_init : Stmt := inClass (top 2) 0
abbrev s_Line_add : Stmt := inClass (top 2) 1
abbrev s_Line_shift : Stmt := inClass (top 2) 2
abbrev s_Breaker_init : Stmt := inClass (top 3) 0
abbrev s_Breaker_last : Stmt := inClass (top 3) 1
abbrev s_Breaker_put : Stmt := inClass (top 3) 2
abbrev s_Breaker_put_word : Stmt := inClass (top 3) 3
abbrev s_break_lines : Stmt := top 4
abbrev s_widest : Stmt := top 5
abbrev s_Piece_init : Stmt := inClass (top 11) 0
abbrev s_Piece_shown : Stmt := inClass (top 11) 1
abbrev s_transformed : Stmt := top 12
abbrev s_shown_value : Stmt := top 13
abbrev s_kept_pieces : Stmt := top 14
abbrev s_Node_init : Stmt := inClass (top 19) 0
abbrev s_Node_is_text : Stmt := inClass (top 19) 1
abbrev s_Node_attribute : Stmt := inClass (top 19) 2
abbrev s_Node_class_words : Stmt := inClass (top 19) 3
abbrev s_Node_element_children : Stmt := inClass (top 19) 4
abbrev s_Node_place_in : Stmt := inClass (top 19) 5
abbrev s_Node_path : Stmt := inClass (top 19) 6
abbrev s_Node_levels_below : Stmt := inClass (top 19) 7
abbrev s_Node_all_nodes : Stmt := inClass (top 19) 8
abbrev s_Node_content : Stmt := inClass (top 19) 9
abbrev s_Node_shown : Stmt := inClass (top 19) 10
abbrev s_Document_init : Stmt := inClass (top 20) 0
abbrev s_Document_make : Stmt := inClass (top 20) 1
abbrev s_Document_node_of : Stmt := inClass (top 20) 2
abbrev s_Document_append : Stmt := inClass (top 20) 3
abbrev s_Document_place_before : Stmt := inClass (top 20) 4
abbrev s_Document_remove : Stmt := inClass (top 20) 5
abbrev s_Document_set_attribute : Stmt := inClass (top 20) 6
abbrev s_Document_set_text : Stmt := inClass (top 20) 7
abbrev s_Document_by_id : Stmt := inClass (top 20) 8
abbrev s_Scanner_init : Stmt := inClass (top 26) 0
abbrev s_Scanner_here : Stmt := inClass (top 26) 1
abbrev s_Scanner_skip_blanks : Stmt := inClass (top 26) 2
abbrev s_Scanner_read_name : Stmt := inClass (top 26) 3
abbrev s_Scanner_up_to : Stmt := inClass (top 26) 4
abbrev s_with_entities : Stmt := top 27
abbrev s_TreeBuilder_init : Stmt := inClass (top 28) 0
abbrev s_TreeBuilder_build : Stmt := inClass (top 28) 1
abbrev s_TreeBuilder_text_run : Stmt := inClass (top 28) 2
abbrev s_TreeBuilder_start_tag : Stmt := inClass (top 28) 3
abbrev s_TreeBuilder_close_before : Stmt := inClass (top 28) 4
abbrev s_TreeBuilder_read_attributes : Stmt := inClass (top 28) 5
abbrev s_TreeBuilder_end_tag : Stmt := inClass (top 28) 6
abbrev s_start_state : Stmt := top 29
abbrev s_parse_markup : Stmt := top 30
abbrev s_law_dice : Stmt := top 32
abbrev s_law_roll : Stmt := top 33
abbrev s_law_rounds : Stmt := top 34
abbrev s_law_lines : Stmt := top 35
abbrev s_law : Stmt := top 36
theorem sc_Line_init : FnScope ["self"] ["self"] (defScope s_Line_init) := ⟨rfl, rfl, rfl, by decide +kernel, rfl, by decide +kernel, by decide +kernel⟩
theorem sc_Line_add : FnScope ["self", "piece", "text", "width"] ["self", "piece", "text"] (defScope s_Line_add) := ⟨rfl, rfl, rfl, by decide +kernel, rfl, by decide +kernel, by decide +kernel⟩
theorem sc_Line_shift : FnScope ["self", "cells", "place", "text", "node", "width"] ["self", "cells"] (defScope s_Line_shift) := ⟨rfl, rfl, rfl, by decide +kernel, rfl, by decide +kernel, by decide +kernel⟩
theorem sc_Breaker_init : FnScope ["self", "width"] ["self", "width"] (defScope s_Breaker_init) := ⟨rfl, rfl, rfl, by decide +kernel, rfl, by decide +kernel, by decide +kernel⟩
theorem sc_Breaker_last : FnScope ["self"] ["self"] (defScope s_Breaker_last) := ⟨rfl, rfl, rfl, by decide +kernel, rfl, by decide +kernel, by decide +kernel⟩
theorem sc_Breaker_put : FnScope ["self", "piece"] ["self", "piece"] (defScope s_Breaker_put) := ⟨rfl, rfl, rfl, by decide +kernel, rfl, by decide +kernel, by decide +kernel⟩
theorem sc_Breaker_put_word : FnScope ["self", "piece", "text", "needed", "room"] ["self", "piece"] (defScope s_Breaker_put_word) := ⟨rfl, rfl, rfl, by decide +kernel, rfl, by decide +kernel, by decide +kernel⟩
theorem sc_break_lines : FnScope ["pieces", "width", "align", "breaker", "piece", "found", "line", "rest"] ["pieces", "width", "align"] (defScope s_break_lines) := ⟨rfl, rfl, rfl, by decide +kernel, rfl, by decide +kernel, by decide +kernel⟩
theorem sc_widest : FnScope ["pieces", "found", "line"] ["pieces"] (defScope s_widest) := ⟨rfl, rfl, rfl, by decide +kernel, rfl, by decide +kernel, by decide +kernel⟩
theorem sc_Piece_init : FnScope ["self", "kind", "text", "node", "width"] ["self", "kind", "text", "node", "width"] (defScope s_Piece_init) := ⟨rfl, rfl, rfl, by decide +kernel, rfl, by decide +kernel, by decide +kernel⟩
theorem sc_Piece_shown : FnScope ["self"] ["self"] (defScope s_Piece_shown) := ⟨rfl, rfl, rfl, by decide +kernel, rfl, by decide +kernel, by decide +kernel⟩
theorem sc_transformed : FnScope ["text", "word"] ["text", "word"] (defScope s_transformed) := ⟨rfl, rfl, rfl, by decide +kernel, rfl, by decide +kernel, by decide +kernel⟩
theorem sc_shown_value : FnScope ["node", "kind"] ["node"] (defScope s_shown_value) := ⟨rfl, rfl, rfl, by decide +kernel, rfl, by decide +kernel, by decide +kernel⟩
theorem sc_kept_pieces : FnScope ["text", "node", "found", "place", "line"] ["text", "node"] (defScope s_kept_pieces) := ⟨rfl, rfl, rfl, by decide +kernel, rfl, by decide +kernel, by decide +kernel⟩
theorem sc_Node_init : FnScope ["self", "number", "tag", "text"] ["self", "number", "tag", "text"] (defScope s_Node_init) := ⟨rfl, rfl, rfl, by decide +kernel, rfl, by decide +kernel, by decide +kernel⟩
theorem sc_Node_is_text : FnScope ["self"] ["self"] (defScope s_Node_is_text) := ⟨rfl, rfl, rfl, by decide +kernel, rfl, by decide +kernel, by decide +kernel⟩
theorem sc_Node_attribute : FnScope ["self", "name"] ["self", "name"] (defScope s_Node_attribute) := ⟨rfl, rfl, rfl, by decide +kernel, rfl, by decide +kernel, by decide +kernel⟩
theorem sc_Node_place_in : FnScope ["self", "place", "child"] ["self"] (defScope s_Node_place_in) := ⟨rfl, rfl, rfl, by decide +kernel, rfl, by decide +kernel, by decide +kernel⟩
theorem sc_Node_path : FnScope ["self", "found", "node"] ["self"] (defScope s_Node_path) := ⟨rfl, rfl, rfl, by decide +kernel, rfl, by decide +kernel, by decide +kernel⟩
theorem sc_Node_levels_below : FnScope ["self", "level", "found", "node", "child"] ["self"] (defScope s_Node_levels_below) := ⟨rfl, rfl, rfl, by decide +kernel, rfl, by decide +kernel, by decide +kernel⟩
theorem sc_Document_init : FnScope ["self"] ["self"] (defScope s_Document_init) := ⟨rfl, rfl, rfl, by decide +kernel, rfl, by decide +kernel, by decide +kernel⟩
theorem sc_Document_make : FnScope ["self", "tag", "text", "node"] ["self", "tag", "text"] (defScope s_Document_make) := ⟨rfl, rfl, rfl, by decide +kernel, rfl, by decide +kernel, by decide +kernel⟩
theorem sc_Document_append : FnScope ["self", "parent", "child"] ["self", "parent", "child"] (defScope s_Document_append) := ⟨rfl, rfl, rfl, by decide +kernel, rfl, by decide +kernel, by decide +kernel⟩
theorem sc_Document_place_before : FnScope ["self", "parent", "child", "place", "before", "node"] ["self", "parent", "child", "place"] (defScope s_Document_place_before) := ⟨rfl, rfl, rfl, by decide +kernel, rfl, by decide +kernel, by decide +kernel⟩
theorem sc_Document_remove : FnScope ["self", "child", "place"] ["self", "child"] (defScope s_Document_remove) := ⟨rfl, rfl, rfl, by decide +kernel, rfl, by decide +kernel, by decide +kernel⟩
theorem sc_Scanner_init : FnScope ["self", "text"] ["self", "text"] (defScope s_Scanner_init) := ⟨rfl, rfl, rfl, by decide +kernel, rfl, by decide +kernel, by decide +kernel⟩
theorem sc_Scanner_here : FnScope ["self", "many"] ["self", "many"] (defScope s_Scanner_here) := ⟨rfl, rfl, rfl, by decide +kernel, rfl, by decide +kernel, by decide +kernel⟩
theorem sc_Scanner_skip_blanks : FnScope ["self"] ["self"] (defScope s_Scanner_skip_blanks) := ⟨rfl, rfl, rfl, by decide +kernel, rfl, by decide +kernel, by decide +kernel⟩
theorem sc_Scanner_read_name : FnScope ["self", "start"] ["self"] (defScope s_Scanner_read_name) := ⟨rfl, rfl, rfl, by decide +kernel, rfl, by decide +kernel, by decide +kernel⟩
theorem sc_Scanner_up_to : FnScope ["self", "sign", "end", "found"] ["self", "sign"] (defScope s_Scanner_up_to) := ⟨rfl, rfl, rfl, by decide +kernel, rfl, by decide +kernel, by decide +kernel⟩
theorem sc_with_entities : FnScope ["text", "found", "place", "end", "name"] ["text"] (defScope s_with_entities) := ⟨rfl, rfl, rfl, by decide +kernel, rfl, by decide +kernel, by decide +kernel⟩
theorem sc_TreeBuilder_init : FnScope ["self", "text"] ["self", "text"] (defScope s_TreeBuilder_init) := ⟨rfl, rfl, rfl, by decide +kernel, rfl, by decide +kernel, by decide +kernel⟩
theorem sc_TreeBuilder_build : FnScope ["self"] ["self"] (defScope s_TreeBuilder_build) := ⟨rfl, rfl, rfl, by decide +kernel, rfl, by decide +kernel, by decide +kernel⟩
theorem sc_TreeBuilder_text_run : FnScope ["self", "end", "text"] ["self"] (defScope s_TreeBuilder_text_run) := ⟨rfl, rfl, rfl, by decide +kernel, rfl, by decide +kernel, by decide +kernel⟩
theorem sc_TreeBuilder_start_tag : FnScope ["self", "tag", "attributes", "node", "text"] ["self"] (defScope s_TreeBuilder_start_tag) := ⟨rfl, rfl, rfl, by decide +kernel, rfl, by decide +kernel, by decide +kernel⟩
theorem sc_TreeBuilder_close_before : FnScope ["self", "tag", "place"] ["self", "tag"] (defScope s_TreeBuilder_close_before) := ⟨rfl, rfl, rfl, by decide +kernel, rfl, by decide +kernel, by decide +kernel⟩
theorem sc_TreeBuilder_read_attributes : FnScope ["self", "found", "name"] ["self"] (defScope s_TreeBuilder_read_attributes) := ⟨rfl, rfl, rfl, by decide +kernel, rfl, by decide +kernel, by decide +kernel⟩
theorem sc_TreeBuilder_end_tag : FnScope ["self", "tag", "places", "place", "node"] ["self"] (defScope s_TreeBuilder_end_tag) := ⟨rfl, rfl, rfl, by decide +kernel, rfl, by decide +kernel, by decide +kernel⟩
theorem sc_start_state : FnScope ["node"] ["node"] (defScope s_start_state) := ⟨rfl, rfl, rfl, by decide +kernel, rfl, by decide +kernel, by decide +kernel⟩
theorem sc_parse_markup : FnScope ["text"] ["text"] (defScope s_parse_markup) := ⟨rfl, rfl, rfl, by decide +kernel, rfl, by decide +kernel, by decide +kernel⟩
theorem sc_law_dice : FnScope ["cell"] ["cell"] (defScope s_law_dice) := ⟨rfl, rfl, rfl, by decide +kernel, rfl, by decide +kernel, by decide +kernel⟩
theorem sc_law_roll : FnScope ["dice", "many", "found"] ["dice", "many"] (defScope s_law_roll) := ⟨rfl, rfl, rfl, by decide +kernel, rfl, by decide +kernel, by decide +kernel⟩
theorem sc_law_rounds : FnScope ["script", "most", "cells", "cell"] ["script", "most"] (defScope s_law_rounds) := ⟨rfl, rfl, rfl, by decide +kernel, rfl, by decide +kernel, by decide +kernel⟩
theorem sc_law_lines : FnScope ["rows", "width", "lines", "waiting", "kind", "text", "last", "room"] ["rows", "width"] (defScope s_law_lines) := ⟨rfl, rfl, rfl, by decide +kernel, rfl, by decide +kernel, by decide +kernel⟩
theorem sc_law : FnScope ["script", "node", "dice", "rows", "k", "sort", "pieces", "width", "found", "due", "shown", "align", "moved", "line", "other", "text", "rest", "shift", "kept", "kind", "place", "one", "wide", "text_now", "run"] ["script"] (defScope s_law) := ⟨rfl, rfl, rfl, by decide +kernel, rfl, by decide +kernel, by decide +kernel⟩
abbrev sl_Line_shift : List Str := ["self", "cells", "place", "text", "node", "width"]
abbrev sl_Breaker_put_word : List Str := ["self", "piece", "text", "needed", "room"]
abbrev sl_Node_levels_below : List Str := ["self", "level", "found", "node", "child"]
abbrev sl_Document_place_before : List Str := ["self", "parent", "child", "place", "before", "node"]
abbrev sl_TreeBuilder_end_tag : List Str := ["self", "tag", "places", "place", "node"]
abbrev sl_law_rounds : List Str := ["script", "most", "cells", "cell"]
abbrev sl_law_lines : List Str := ["rows", "width", "lines", "waiting", "kind", "text", "last", "room"]
abbrev sl_law : List Str := ["script", "node", "dice", "rows", "k", "sort", "pieces", "width", "found", "due", "shown", "align", "moved", "line", "other", "text", "rest", "shift", "kept", "kind", "place", "one", "wide", "text_now", "run"]
def d_wall : He.DefD := ⟨("_wall", none), "_wall", "_wall", defArgs s_wall, defBody s_wall, defScope s_wall, [], []⟩
def d_Line_init : He.DefD := ⟨("Line", some "__init__"), "__init__", "Line.__init__", defArgs s_Line_init, defBody s_Line_init, defScope s_Line_init, [], []⟩
def d_Line_add : He.DefD := ⟨("Line", some "add"), "add", "Line.add", defArgs s_Line_add, defBody s_Line_add, defScope s_Line_add, [], []⟩
def d_Line_shift : He.DefD := ⟨("Line", some "shift"), "shift", "Line.shift", defArgs s_Line_shift, defBody s_Line_shift, defScope s_Line_shift, [], []⟩
def d_Breaker_init : He.DefD := ⟨("Breaker", some "__init__"), "__init__", "Breaker.__init__", defArgs s_Breaker_init, defBody s_Breaker_init, defScope s_Breaker_init, [], []⟩
def d_Breaker_last : He.DefD := ⟨("Breaker", some "last"), "last", "Breaker.last", defArgs s_Breaker_last, defBody s_Breaker_last, defScope s_Breaker_last, [], []⟩
def d_Breaker_put : He.DefD := ⟨("Breaker", some "put"), "put", "Breaker.put", defArgs s_Breaker_put, defBody s_Breaker_put, defScope s_Breaker_put, [], []⟩
def d_Breaker_put_word : He.DefD := ⟨("Breaker", some "put_word"), "put_word", "Breaker.put_word", defArgs s_Breaker_put_word, defBody s_Breaker_put_word, defScope s_Breaker_put_word, [], []⟩
def d_break_lines : He.DefD := ⟨("break_lines", none), "break_lines", "break_lines", defArgs s_break_lines, defBody s_break_lines, defScope s_break_lines, [], []⟩
def d_widest : He.DefD := ⟨("widest", none), "widest", "widest", defArgs s_widest, defBody s_widest, defScope s_widest, [], []⟩
def d_Piece_init : He.DefD := ⟨("Piece", some "__init__"), "__init__", "Piece.__init__", defArgs s_Piece_init, defBody s_Piece_init, defScope s_Piece_init, [], []⟩
def d_Piece_shown : He.DefD := ⟨("Piece", some "shown"), "shown", "Piece.shown", defArgs s_Piece_shown, defBody s_Piece_shown, defScope s_Piece_shown, [], []⟩
def d_transformed : He.DefD := ⟨("transformed", none), "transformed", "transformed", defArgs s_transformed, defBody s_transformed, defScope s_transformed, [], []⟩
def d_shown_value : He.DefD := ⟨("shown_value", none), "shown_value", "shown_value", defArgs s_shown_value, defBody s_shown_value, defScope s_shown_value, [], []⟩
def d_kept_pieces : He.DefD := ⟨("kept_pieces", none), "kept_pieces", "kept_pieces", defArgs s_kept_pieces, defBody s_kept_pieces, defScope s_kept_pieces, [], []⟩
def d_Node_init : He.DefD := ⟨("Node", some "__init__"), "__init__", "Node.__init__", defArgs s_Node_init, defBody s_Node_init, defScope s_Node_init, [.str ""], []⟩
def d_Node_is_text : He.DefD := ⟨("Node", some "is_text"), "is_text", "Node.is_text", defArgs s_Node_is_text, defBody s_Node_is_text, defScope s_Node_is_text, [], []⟩
def d_Node_attribute : He.DefD := ⟨("Node", some "attribute"), "attribute", "Node.attribute", defArgs s_Node_attribute, defBody s_Node_attribute, defScope s_Node_attribute, [], []⟩
def d_Node_class_words : He.DefD := ⟨("Node", some "class_words"), "class_words", "Node.class_words", defArgs s_Node_class_words, defBody s_Node_class_words, defScope s_Node_class_words, [], []⟩
def d_Node_element_children : He.DefD := ⟨("Node", some "element_children"), "element_children", "Node.element_children", defArgs s_Node_element_children, defBody s_Node_element_children, defScope s_Node_element_children, [], []⟩
def d_Node_place_in : He.DefD := ⟨("Node", some "place_in"), "place_in", "Node.place_in", defArgs s_Node_place_in, defBody s_Node_place_in, defScope s_Node_place_in, [], []⟩
def d_Node_path : He.DefD := ⟨("Node", some "path"), "path", "Node.path", defArgs s_Node_path, defBody s_Node_path, defScope s_Node_path, [], []⟩
def d_Node_levels_below : He.DefD := ⟨("Node", some "levels_below"), "levels_below", "Node.levels_below", defArgs s_Node_levels_below, defBody s_Node_levels_below, defScope s_Node_levels_below, [], []⟩
def d_Node_all_nodes : He.DefD := ⟨("Node", some "all_nodes"), "all_nodes", "Node.all_nodes", defArgs s_Node_all_nodes, defBody s_Node_all_nodes, defScope s_Node_all_nodes, [], []⟩
def d_Node_content : He.DefD := ⟨("Node", some "content"), "content", "Node.content", defArgs s_Node_content, defBody s_Node_content, defScope s_Node_content, [], []⟩
def d_Node_shown : He.DefD := ⟨("Node", some "shown"), "shown", "Node.shown", defArgs s_Node_shown, defBody s_Node_shown, defScope s_Node_shown, [], []⟩
def d_Document_init : He.DefD := ⟨("Document", some "__init__"), "__init__", "Document.__init__", defArgs s_Document_init, defBody s_Document_init, defScope s_Document_init, [], []⟩
def d_Document_make : He.DefD := ⟨("Document", some "make"), "make", "Document.make", defArgs s_Document_make, defBody s_Document_make, defScope s_Document_make, [.str ""], []⟩
def d_Document_node_of : He.DefD := ⟨("Document", some "node_of"), "node_of", "Document.node_of", defArgs s_Document_node_of, defBody s_Document_node_of, defScope s_Document_node_of, [], []⟩
def d_Document_append : He.DefD := ⟨("Document", some "append"), "append", "Document.append", defArgs s_Document_append, defBody s_Document_append, defScope s_Document_append, [], []⟩
def d_Document_place_before : He.DefD := ⟨("Document", some "place_before"), "place_before", "Document.place_before", defArgs s_Document_place_before, defBody s_Document_place_before, defScope s_Document_place_before, [], []⟩
def d_Document_remove : He.DefD := ⟨("Document", some "remove"), "remove", "Document.remove", defArgs s_Document_remove, defBody s_Document_remove, defScope s_Document_remove, [], []⟩
def d_Document_set_attribute : He.DefD := ⟨("Document", some "set_attribute"), "set_attribute", "Document.set_attribute", defArgs s_Document_set_attribute, defBody s_Document_set_attribute, defScope s_Document_set_attribute, [], []⟩
def d_Document_set_text : He.DefD := ⟨("Document", some "set_text"), "set_text", "Document.set_text", defArgs s_Document_set_text, defBody s_Document_set_text, defScope s_Document_set_text, [], []⟩
def d_Document_by_id : He.DefD := ⟨("Document", some "by_id"), "by_id", "Document.by_id", defArgs s_Document_by_id, defBody s_Document_by_id, defScope s_Document_by_id, [], []⟩
def d_Scanner_init : He.DefD := ⟨("Scanner", some "__init__"), "__init__", "Scanner.__init__", defArgs s_Scanner_init, defBody s_Scanner_init, defScope s_Scanner_init, [], []⟩
def d_Scanner_here : He.DefD := ⟨("Scanner", some "here"), "here", "Scanner.here", defArgs s_Scanner_here, defBody s_Scanner_here, defScope s_Scanner_here, [.int (1)], []⟩
def d_Scanner_skip_blanks : He.DefD := ⟨("Scanner", some "skip_blanks"), "skip_blanks", "Scanner.skip_blanks", defArgs s_Scanner_skip_blanks, defBody s_Scanner_skip_blanks, defScope s_Scanner_skip_blanks, [], []⟩
def d_Scanner_read_name : He.DefD := ⟨("Scanner", some "read_name"), "read_name", "Scanner.read_name", defArgs s_Scanner_read_name, defBody s_Scanner_read_name, defScope s_Scanner_read_name, [], []⟩
def d_Scanner_up_to : He.DefD := ⟨("Scanner", some "up_to"), "up_to", "Scanner.up_to", defArgs s_Scanner_up_to, defBody s_Scanner_up_to, defScope s_Scanner_up_to, [], []⟩
def d_with_entities : He.DefD := ⟨("with_entities", none), "with_entities", "with_entities", defArgs s_with_entities, defBody s_with_entities, defScope s_with_entities, [], []⟩
def d_TreeBuilder_init : He.DefD := ⟨("TreeBuilder", some "__init__"), "__init__", "TreeBuilder.__init__", defArgs s_TreeBuilder_init, defBody s_TreeBuilder_init, defScope s_TreeBuilder_init, [], []⟩
def d_TreeBuilder_build : He.DefD := ⟨("TreeBuilder", some "build"), "build", "TreeBuilder.build", defArgs s_TreeBuilder_build, defBody s_TreeBuilder_build, defScope s_TreeBuilder_build, [], []⟩
def d_TreeBuilder_text_run : He.DefD := ⟨("TreeBuilder", some "text_run"), "text_run", "TreeBuilder.text_run", defArgs s_TreeBuilder_text_run, defBody s_TreeBuilder_text_run, defScope s_TreeBuilder_text_run, [], []⟩
def d_TreeBuilder_start_tag : He.DefD := ⟨("TreeBuilder", some "start_tag"), "start_tag", "TreeBuilder.start_tag", defArgs s_TreeBuilder_start_tag, defBody s_TreeBuilder_start_tag, defScope s_TreeBuilder_start_tag, [], []⟩
def d_TreeBuilder_close_before : He.DefD := ⟨("TreeBuilder", some "close_before"), "close_before", "TreeBuilder.close_before", defArgs s_TreeBuilder_close_before, defBody s_TreeBuilder_close_before, defScope s_TreeBuilder_close_before, [], []⟩
def d_TreeBuilder_read_attributes : He.DefD := ⟨("TreeBuilder", some "read_attributes"), "read_attributes", "TreeBuilder.read_attributes", defArgs s_TreeBuilder_read_attributes, defBody s_TreeBuilder_read_attributes, defScope s_TreeBuilder_read_attributes, [], []⟩
def d_TreeBuilder_end_tag : He.DefD := ⟨("TreeBuilder", some "end_tag"), "end_tag", "TreeBuilder.end_tag", defArgs s_TreeBuilder_end_tag, defBody s_TreeBuilder_end_tag, defScope s_TreeBuilder_end_tag, [], []⟩
def d_start_state : He.DefD := ⟨("start_state", none), "start_state", "start_state", defArgs s_start_state, defBody s_start_state, defScope s_start_state, [], []⟩
def d_parse_markup : He.DefD := ⟨("parse_markup", none), "parse_markup", "parse_markup", defArgs s_parse_markup, defBody s_parse_markup, defScope s_parse_markup, [], []⟩
def d_law_dice : He.DefD := ⟨("_law_dice", none), "_law_dice", "_law_dice", defArgs s_law_dice, defBody s_law_dice, defScope s_law_dice, [], []⟩
def d_law_roll : He.DefD := ⟨("_law_roll", none), "_law_roll", "_law_roll", defArgs s_law_roll, defBody s_law_roll, defScope s_law_roll, [], []⟩
def d_law_rounds : He.DefD := ⟨("_law_rounds", none), "_law_rounds", "_law_rounds", defArgs s_law_rounds, defBody s_law_rounds, defScope s_law_rounds, [], []⟩
def d_law_lines : He.DefD := ⟨("_law_lines", none), "_law_lines", "_law_lines", defArgs s_law_lines, defBody s_law_lines, defScope s_law_lines, [], []⟩
def d_law : He.DefD := ⟨("law", none), "law", "law", defArgs s_law, defBody s_law, defScope s_law, [], []⟩
def fn : List He.DefD := [d_wall, d_Line_init, d_Line_add, d_Line_shift, d_Breaker_init, d_Breaker_last, d_Breaker_put, d_Breaker_put_word, d_break_lines, d_widest, d_Piece_init, d_Piece_shown, d_transformed, d_shown_value, d_kept_pieces, d_Node_init, d_Node_is_text, d_Node_attribute, d_Node_class_words, d_Node_element_children, d_Node_place_in, d_Node_path, d_Node_levels_below, d_Node_all_nodes, d_Node_content, d_Node_shown, d_Document_init, d_Document_make, d_Document_node_of, d_Document_append, d_Document_place_before, d_Document_remove, d_Document_set_attribute, d_Document_set_text, d_Document_by_id, d_Scanner_init, d_Scanner_here, d_Scanner_skip_blanks, d_Scanner_read_name, d_Scanner_up_to, d_with_entities, d_TreeBuilder_init, d_TreeBuilder_build, d_TreeBuilder_text_run, d_TreeBuilder_start_tag, d_TreeBuilder_close_before, d_TreeBuilder_read_attributes, d_TreeBuilder_end_tag, d_start_state, d_parse_markup, d_law_dice, d_law_roll, d_law_rounds, d_law_lines, d_law]
def fa : List He.Fa := [.glo "_wall", .glo "Line", .glo "Breaker", .glo "break_lines", .glo "widest", .glo "PageError", .glo "MarkupError", .glo "TreeError", .glo "Piece", .glo "transformed", .glo "shown_value", .glo "kept_pieces", .glo "VOID", .glo "BLOCKS", .glo "Node", .glo "Document", .glo "ENTITIES", .glo "RAW", .glo "Scanner", .glo "with_entities", .glo "TreeBuilder", .glo "start_state", .glo "parse_markup", .glo "_law_dice", .glo "_law_roll", .glo "_law_rounds", .glo "_law_lines", .glo "law", .int "MOST_LEVELS" (100), .str "TAG_SIGNS" "abcdefghijklmnopqrstuvwxyz0123456789-", .int "MOST_DEEP" (60), .free "len", .free "max", .free "enumerate", .free "tuple", .free "sorted", .free "any", .free "int", .free "abs", .free "range", .free "zip", .cls "Line", .noat "Line" "runs", .noat "Line" "width", .mkr "Line", .meth "Line" "add", .meth "Line" "shift", .cls "Breaker", .noat "Breaker" "limit", .noat "Breaker" "lines", .noat "Breaker" "space", .mkr "Breaker", .meth "Breaker" "last", .meth "Breaker" "put", .meth "Breaker" "put_word", .exc "PageError", .keep "PageError", .exc "MarkupError", .keep "MarkupError", .exc "TreeError", .keep "TreeError", .cls "Piece", .noat "Piece" "kind", .noat "Piece" "text", .noat "Piece" "node", .noat "Piece" "width", .mkr "Piece", .meth "Piece" "shown", .cls "Node", .noat "Node" "number", .noat "Node" "tag", .noat "Node" "text", .noat "Node" "attributes", .noat "Node" "children", .noat "Node" "parent", .noat "Node" "value", .noat "Node" "checked", .mkr "Node", .meth "Node" "is_text", .meth "Node" "attribute", .meth "Node" "class_words", .meth "Node" "element_children", .meth "Node" "place_in", .meth "Node" "path", .meth "Node" "levels_below", .meth "Node" "all_nodes", .meth "Node" "content", .meth "Node" "shown", .cls "Document", .noat "Document" "nodes", .noat "Document" "next_number", .noat "Document" "root", .noat "Document" "version", .mkr "Document", .meth "Document" "make", .meth "Document" "node_of", .meth "Document" "append", .meth "Document" "place_before", .meth "Document" "remove", .meth "Document" "set_attribute", .meth "Document" "set_text", .meth "Document" "by_id", .cls "Scanner", .noat "Scanner" "text", .noat "Scanner" "place", .mkr "Scanner", .meth "Scanner" "here", .meth "Scanner" "skip_blanks", .meth "Scanner" "read_name", .meth "Scanner" "up_to", .cls "TreeBuilder", .noat "TreeBuilder" "scanner", .noat "TreeBuilder" "document", .noat "TreeBuilder" "open_nodes", .mkr "TreeBuilder", .meth "TreeBuilder" "build", .meth "TreeBuilder" "text_run", .meth "TreeBuilder" "start_tag", .meth "TreeBuilder" "close_before", .meth "TreeBuilder" "read_attributes", .meth "TreeBuilder" "end_tag"]
def entD : List (Str × He.Dv) := [("lt", .str "<"), ("gt", .str ">"), ("amp", .str "&"), ("quot", .str "\"")]
def tf : List He.Defn := [("Document", some "place_before")]
def ts : List He.Tab := [((fun K => He.ga K "ENTITIES"), ["lt", "gt", "amp", "quot"])]
def exB : PySem.W.Frag → Bool := fun K => (He.tupB K "VOID" [.str "br", .str "hr", .str "img", .str "input", .str "meta", .str "link"] && He.tupB K "BLOCKS" [.str "html", .str "body", .str "div", .str "p", .str "ul", .str "ol", .str "li", .str "h1", .str "h2", .str "section", .str "form", .str "hr", .str "pre", .str "main"] && He.tupB K "RAW" [.str "script", .str "style"]) && (decide ([(He.cT K ("Document", some "place_before")).2].Nodup) && He.valsB K (He.ga K "ENTITIES") entD)
abbrev R : PySem.W.OpenRow := PySem.W.OpenLaw.row PySem.Challenge.rw_pagestack_k05_lines_that_are_broken
abbrev hk : PySem.W.Hook := He.hookX 6 fa fn ts tf exB
def ob (s : PySem.W.SharedT) : He.AlX := He.obsX 6 fa fn ts tf exB (HandSHeadRun.getT s)
theorem ob_eq (s : PySem.W.SharedT) : ob s = hk.obs s.abs := He.obsX_eq (HandSHeadRun.getT_eq s)
def looseN : List PySem.Str := (("_wall" : Str) :: ("Line" : Str) :: ("Breaker" : Str) :: ("break_lines" : Str) :: ("widest" : Str) :: ("PageError" : Str) :: ("MarkupError" : Str) :: ("TreeError" : Str) :: ("Piece" : Str) :: ("transformed" : Str) :: ("shown_value" : Str) :: ("kept_pieces" : Str) :: ("VOID" : Str) :: ("BLOCKS" : Str) :: ("MOST_LEVELS" : Str) :: ("Node" : Str) :: ("Document" : Str) :: ("TAG_SIGNS" : Str) :: ("ENTITIES" : Str) :: ("RAW" : Str) :: ("MOST_DEEP" : Str) :: ("Scanner" : Str) :: ("with_entities" : Str) :: ("TreeBuilder" : Str) :: ("start_state" : Str) :: ("parse_markup" : Str) :: ("_law_dice" : Str) :: ("_law_roll" : Str) :: ("_law_rounds" : Str) :: ("_law_lines" : Str) :: [])
theorem runF (w : World) : HandSHeadRun.RunEq R (PySem.W.view R.prog [36]) hk ob 20000 looseN (Dn.ftW [("special-get-raises", false)] w) := by
  intro os
  kernel_rfl
theorem runT (w : World) : HandSHeadRun.RunEq R (PySem.W.view R.prog [36]) hk ob 20000 looseN (Dn.ftW [("special-get-raises", true)] w) := by
  intro os
  kernel_rfl
theorem runB (w : World) (b : Bool) : HandSHeadRun.RunEq R (PySem.W.view R.prog [36]) hk ob 20000 looseN (Dn.ftW [("special-get-raises", b)] w) := by
  cases b
  · exact runF w
  · exact runT w
theorem run (w : World) : HandSHeadRun.RunEq R (PySem.W.view R.prog [36]) hk ob 20000 looseN w := by
  have e := Dn.ftW_eq (w := w) (L := [("special-get-raises", w.params.followText "special-get-raises")]) (by simp)
  rw [← e]
  exact runB w _
structure Tx (K : PySem.W.Frag) (mg : Str → Option Value) : Prop where
  g__wall : mg "_wall" = some (.ref (He.ga K "_wall"))
  g_Line : mg "Line" = some (.ref (He.ga K "Line"))
  g_Breaker : mg "Breaker" = some (.ref (He.ga K "Breaker"))
  g_break_lines : mg "break_lines" = some (.ref (He.ga K "break_lines"))
  g_widest : mg "widest" = some (.ref (He.ga K "widest"))
  g_PageError : mg "PageError" = some (.ref (He.ga K "PageError"))
  g_MarkupError : mg "MarkupError" = some (.ref (He.ga K "MarkupError"))
  g_TreeError : mg "TreeError" = some (.ref (He.ga K "TreeError"))
  g_Piece : mg "Piece" = some (.ref (He.ga K "Piece"))
  g_transformed : mg "transformed" = some (.ref (He.ga K "transformed"))
  g_shown_value : mg "shown_value" = some (.ref (He.ga K "shown_value"))
  g_kept_pieces : mg "kept_pieces" = some (.ref (He.ga K "kept_pieces"))
  g_VOID : mg "VOID" = some (.ref (He.ga K "VOID"))
  g_BLOCKS : mg "BLOCKS" = some (.ref (He.ga K "BLOCKS"))
  g_Node : mg "Node" = some (.ref (He.ga K "Node"))
  g_Document : mg "Document" = some (.ref (He.ga K "Document"))
  g_ENTITIES : mg "ENTITIES" = some (.ref (He.ga K "ENTITIES"))
  g_RAW : mg "RAW" = some (.ref (He.ga K "RAW"))
  g_Scanner : mg "Scanner" = some (.ref (He.ga K "Scanner"))
  g_with_entities : mg "with_entities" = some (.ref (He.ga K "with_entities"))
  g_TreeBuilder : mg "TreeBuilder" = some (.ref (He.ga K "TreeBuilder"))
  g_start_state : mg "start_state" = some (.ref (He.ga K "start_state"))
  g_parse_markup : mg "parse_markup" = some (.ref (He.ga K "parse_markup"))
  g__law_dice : mg "_law_dice" = some (.ref (He.ga K "_law_dice"))
  g__law_roll : mg "_law_roll" = some (.ref (He.ga K "_law_roll"))
  g__law_rounds : mg "_law_rounds" = some (.ref (He.ga K "_law_rounds"))
  g__law_lines : mg "_law_lines" = some (.ref (He.ga K "_law_lines"))
  g_law : mg "law" = some (.ref (He.ga K "law"))
  g_MOST_LEVELS : ∃ u, mg "MOST_LEVELS" = some u ∧ RelV (.int (100)) u
  g_TAG_SIGNS : ∃ u, mg "TAG_SIGNS" = some u ∧ RelV (.str "abcdefghijklmnopqrstuvwxyz0123456789-") u
  g_MOST_DEEP : ∃ u, mg "MOST_DEEP" = some u ∧ RelV (.int (60)) u
  b_len : mg "len" = none
  b_max : mg "max" = none
  b_enumerate : mg "enumerate" = none
  b_tuple : mg "tuple" = none
  b_sorted : mg "sorted" = none
  b_any : mg "any" = none
  b_int : mg "int" = none
  b_abs : mg "abs" = none
  b_range : mg "range" = none
  b_zip : mg "zip" = none
  cl_Line : Cls K (He.ga K "Line")
  no_Line_runs : NoAttr K (He.ga K "Line") "runs"
  no_Line_width : NoAttr K (He.ga K "Line") "width"
  mk_Line : Mk K (He.ga K "Line") (He.ma K (He.ga K "Line") "__init__")
  me_Line_add : Meth K (He.ga K "Line") "add" (He.ma K (He.ga K "Line") "add")
  me_Line_shift : Meth K (He.ga K "Line") "shift" (He.ma K (He.ga K "Line") "shift")
  cl_Breaker : Cls K (He.ga K "Breaker")
  no_Breaker_limit : NoAttr K (He.ga K "Breaker") "limit"
  no_Breaker_lines : NoAttr K (He.ga K "Breaker") "lines"
  no_Breaker_space : NoAttr K (He.ga K "Breaker") "space"
  mk_Breaker : Mk K (He.ga K "Breaker") (He.ma K (He.ga K "Breaker") "__init__")
  me_Breaker_last : Meth K (He.ga K "Breaker") "last" (He.ma K (He.ga K "Breaker") "last")
  me_Breaker_put : Meth K (He.ga K "Breaker") "put" (He.ma K (He.ga K "Breaker") "put")
  me_Breaker_put_word : Meth K (He.ga K "Breaker") "put_word" (He.ma K (He.ga K "Breaker") "put_word")
  x_PageError : PySem.W.excIn K (He.ga K "PageError") He.veBase "ValueError.__new__" = true ∧ PySem.W.keepIn K (.ref (He.ga K "PageError")) = true ∧ PySem.W.subIn K (.ref (He.ga K "PageError")) (.type "BaseException") = some true ∧ PySem.W.typeIn K (.ref (He.ga K "PageError")) = some (.type "type")
  x_MarkupError : PySem.W.excIn K (He.ga K "MarkupError") He.veBase "ValueError.__new__" = true ∧ PySem.W.keepIn K (.ref (He.ga K "MarkupError")) = true ∧ PySem.W.subIn K (.ref (He.ga K "MarkupError")) (.type "BaseException") = some true ∧ PySem.W.typeIn K (.ref (He.ga K "MarkupError")) = some (.type "type")
  x_TreeError : PySem.W.excIn K (He.ga K "TreeError") He.veBase "ValueError.__new__" = true ∧ PySem.W.keepIn K (.ref (He.ga K "TreeError")) = true ∧ PySem.W.subIn K (.ref (He.ga K "TreeError")) (.type "BaseException") = some true ∧ PySem.W.typeIn K (.ref (He.ga K "TreeError")) = some (.type "type")
  cl_Piece : Cls K (He.ga K "Piece")
  no_Piece_kind : NoAttr K (He.ga K "Piece") "kind"
  no_Piece_text : NoAttr K (He.ga K "Piece") "text"
  no_Piece_node : NoAttr K (He.ga K "Piece") "node"
  no_Piece_width : NoAttr K (He.ga K "Piece") "width"
  mk_Piece : Mk K (He.ga K "Piece") (He.ma K (He.ga K "Piece") "__init__")
  me_Piece_shown : Meth K (He.ga K "Piece") "shown" (He.ma K (He.ga K "Piece") "shown")
  cl_Node : Cls K (He.ga K "Node")
  no_Node_number : NoAttr K (He.ga K "Node") "number"
  no_Node_tag : NoAttr K (He.ga K "Node") "tag"
  no_Node_text : NoAttr K (He.ga K "Node") "text"
  no_Node_attributes : NoAttr K (He.ga K "Node") "attributes"
  no_Node_children : NoAttr K (He.ga K "Node") "children"
  no_Node_parent : NoAttr K (He.ga K "Node") "parent"
  no_Node_value : NoAttr K (He.ga K "Node") "value"
  no_Node_checked : NoAttr K (He.ga K "Node") "checked"
  mk_Node : Mk K (He.ga K "Node") (He.ma K (He.ga K "Node") "__init__")
  me_Node_is_text : Meth K (He.ga K "Node") "is_text" (He.ma K (He.ga K "Node") "is_text")
  me_Node_attribute : Meth K (He.ga K "Node") "attribute" (He.ma K (He.ga K "Node") "attribute")
  me_Node_class_words : Meth K (He.ga K "Node") "class_words" (He.ma K (He.ga K "Node") "class_words")
  me_Node_element_children : Meth K (He.ga K "Node") "element_children" (He.ma K (He.ga K "Node") "element_children")
  me_Node_place_in : Meth K (He.ga K "Node") "place_in" (He.ma K (He.ga K "Node") "place_in")
  me_Node_path : Meth K (He.ga K "Node") "path" (He.ma K (He.ga K "Node") "path")
  me_Node_levels_below : Meth K (He.ga K "Node") "levels_below" (He.ma K (He.ga K "Node") "levels_below")
  me_Node_all_nodes : Meth K (He.ga K "Node") "all_nodes" (He.ma K (He.ga K "Node") "all_nodes")
  me_Node_content : Meth K (He.ga K "Node") "content" (He.ma K (He.ga K "Node") "content")
  me_Node_shown : Meth K (He.ga K "Node") "shown" (He.ma K (He.ga K "Node") "shown")
  cl_Document : Cls K (He.ga K "Document")
  no_Document_nodes : NoAttr K (He.ga K "Document") "nodes"
  no_Document_next_number : NoAttr K (He.ga K "Document") "next_number"
  no_Document_root : NoAttr K (He.ga K "Document") "root"
  no_Document_version : NoAttr K (He.ga K "Document") "version"
  mk_Document : Mk K (He.ga K "Document") (He.ma K (He.ga K "Document") "__init__")
  me_Document_make : Meth K (He.ga K "Document") "make" (He.ma K (He.ga K "Document") "make")
  me_Document_node_of : Meth K (He.ga K "Document") "node_of" (He.ma K (He.ga K "Document") "node_of")
  me_Document_append : Meth K (He.ga K "Document") "append" (He.ma K (He.ga K "Document") "append")
  me_Document_place_before : Meth K (He.ga K "Document") "place_before" (He.ma K (He.ga K "Document") "place_before")
  me_Document_remove : Meth K (He.ga K "Document") "remove" (He.ma K (He.ga K "Document") "remove")
  me_Document_set_attribute : Meth K (He.ga K "Document") "set_attribute" (He.ma K (He.ga K "Document") "set_attribute")
  me_Document_set_text : Meth K (He.ga K "Document") "set_text" (He.ma K (He.ga K "Document") "set_text")
  me_Document_by_id : Meth K (He.ga K "Document") "by_id" (He.ma K (He.ga K "Document") "by_id")
  cl_Scanner : Cls K (He.ga K "Scanner")
  no_Scanner_text : NoAttr K (He.ga K "Scanner") "text"
  no_Scanner_place : NoAttr K (He.ga K "Scanner") "place"
  mk_Scanner : Mk K (He.ga K "Scanner") (He.ma K (He.ga K "Scanner") "__init__")
  me_Scanner_here : Meth K (He.ga K "Scanner") "here" (He.ma K (He.ga K "Scanner") "here")
  me_Scanner_skip_blanks : Meth K (He.ga K "Scanner") "skip_blanks" (He.ma K (He.ga K "Scanner") "skip_blanks")
  me_Scanner_read_name : Meth K (He.ga K "Scanner") "read_name" (He.ma K (He.ga K "Scanner") "read_name")
  me_Scanner_up_to : Meth K (He.ga K "Scanner") "up_to" (He.ma K (He.ga K "Scanner") "up_to")
  cl_TreeBuilder : Cls K (He.ga K "TreeBuilder")
  no_TreeBuilder_scanner : NoAttr K (He.ga K "TreeBuilder") "scanner"
  no_TreeBuilder_document : NoAttr K (He.ga K "TreeBuilder") "document"
  no_TreeBuilder_open_nodes : NoAttr K (He.ga K "TreeBuilder") "open_nodes"
  mk_TreeBuilder : Mk K (He.ga K "TreeBuilder") (He.ma K (He.ga K "TreeBuilder") "__init__")
  me_TreeBuilder_build : Meth K (He.ga K "TreeBuilder") "build" (He.ma K (He.ga K "TreeBuilder") "build")
  me_TreeBuilder_text_run : Meth K (He.ga K "TreeBuilder") "text_run" (He.ma K (He.ga K "TreeBuilder") "text_run")
  me_TreeBuilder_start_tag : Meth K (He.ga K "TreeBuilder") "start_tag" (He.ma K (He.ga K "TreeBuilder") "start_tag")
  me_TreeBuilder_close_before : Meth K (He.ga K "TreeBuilder") "close_before" (He.ma K (He.ga K "TreeBuilder") "close_before")
  me_TreeBuilder_read_attributes : Meth K (He.ga K "TreeBuilder") "read_attributes" (He.ma K (He.ga K "TreeBuilder") "read_attributes")
  me_TreeBuilder_end_tag : Meth K (He.ga K "TreeBuilder") "end_tag" (He.ma K (He.ga K "TreeBuilder") "end_tag")
  t_VOID : ∀ H, SqT K H (He.ga K "VOID") (List.map (He.Dv.v K) [.str "br", .str "hr", .str "img", .str "input", .str "meta", .str "link"])
  t_BLOCKS : ∀ H, SqT K H (He.ga K "BLOCKS") (List.map (He.Dv.v K) [.str "html", .str "body", .str "div", .str "p", .str "ul", .str "ol", .str "li", .str "h1", .str "h2", .str "section", .str "form", .str "hr", .str "pre", .str "main"])
  t_RAW : ∀ H, SqT K H (He.ga K "RAW") (List.map (He.Dv.v K) [.str "script", .str "style"])
theorem tx_of {K : PySem.W.Frag} {h : Heap} {mg : Str → Option Value} (X : K.In h) (G : h.Ns mainGlobals mg) (c : He.SaysD fa fn K) (ex : exB K = true) : Tx K mg := by
  have zz : exB K = true := ex
  unfold exB at zz
  simp only [Bool.and_eq_true] at zz
  obtain ⟨⟨⟨z0, z1⟩, z2⟩, _⟩ := zz
  exact {
    g__wall := He.glo_ok X G (c.fact 0 (f := .glo "_wall") rfl)
    g_Line := He.glo_ok X G (c.fact 1 (f := .glo "Line") rfl)
    g_Breaker := He.glo_ok X G (c.fact 2 (f := .glo "Breaker") rfl)
    g_break_lines := He.glo_ok X G (c.fact 3 (f := .glo "break_lines") rfl)
    g_widest := He.glo_ok X G (c.fact 4 (f := .glo "widest") rfl)
    g_PageError := He.glo_ok X G (c.fact 5 (f := .glo "PageError") rfl)
    g_MarkupError := He.glo_ok X G (c.fact 6 (f := .glo "MarkupError") rfl)
    g_TreeError := He.glo_ok X G (c.fact 7 (f := .glo "TreeError") rfl)
    g_Piece := He.glo_ok X G (c.fact 8 (f := .glo "Piece") rfl)
    g_transformed := He.glo_ok X G (c.fact 9 (f := .glo "transformed") rfl)
    g_shown_value := He.glo_ok X G (c.fact 10 (f := .glo "shown_value") rfl)
    g_kept_pieces := He.glo_ok X G (c.fact 11 (f := .glo "kept_pieces") rfl)
    g_VOID := He.glo_ok X G (c.fact 12 (f := .glo "VOID") rfl)
    g_BLOCKS := He.glo_ok X G (c.fact 13 (f := .glo "BLOCKS") rfl)
    g_Node := He.glo_ok X G (c.fact 14 (f := .glo "Node") rfl)
    g_Document := He.glo_ok X G (c.fact 15 (f := .glo "Document") rfl)
    g_ENTITIES := He.glo_ok X G (c.fact 16 (f := .glo "ENTITIES") rfl)
    g_RAW := He.glo_ok X G (c.fact 17 (f := .glo "RAW") rfl)
    g_Scanner := He.glo_ok X G (c.fact 18 (f := .glo "Scanner") rfl)
    g_with_entities := He.glo_ok X G (c.fact 19 (f := .glo "with_entities") rfl)
    g_TreeBuilder := He.glo_ok X G (c.fact 20 (f := .glo "TreeBuilder") rfl)
    g_start_state := He.glo_ok X G (c.fact 21 (f := .glo "start_state") rfl)
    g_parse_markup := He.glo_ok X G (c.fact 22 (f := .glo "parse_markup") rfl)
    g__law_dice := He.glo_ok X G (c.fact 23 (f := .glo "_law_dice") rfl)
    g__law_roll := He.glo_ok X G (c.fact 24 (f := .glo "_law_roll") rfl)
    g__law_rounds := He.glo_ok X G (c.fact 25 (f := .glo "_law_rounds") rfl)
    g__law_lines := He.glo_ok X G (c.fact 26 (f := .glo "_law_lines") rfl)
    g_law := He.glo_ok X G (c.fact 27 (f := .glo "law") rfl)
    g_MOST_LEVELS := let ⟨t, e⟩ := He.int_ok X G (c.fact 28 (f := .int "MOST_LEVELS" (100)) rfl); ⟨_, e, t, rfl⟩
    g_TAG_SIGNS := let ⟨t, e⟩ := He.str_ok X G (c.fact 29 (f := .str "TAG_SIGNS" "abcdefghijklmnopqrstuvwxyz0123456789-") rfl); ⟨_, e, t, rfl⟩
    g_MOST_DEEP := let ⟨t, e⟩ := He.int_ok X G (c.fact 30 (f := .int "MOST_DEEP" (60)) rfl); ⟨_, e, t, rfl⟩
    b_len := He.free_ok X G (c.fact 31 (f := .free "len") rfl)
    b_max := He.free_ok X G (c.fact 32 (f := .free "max") rfl)
    b_enumerate := He.free_ok X G (c.fact 33 (f := .free "enumerate") rfl)
    b_tuple := He.free_ok X G (c.fact 34 (f := .free "tuple") rfl)
    b_sorted := He.free_ok X G (c.fact 35 (f := .free "sorted") rfl)
    b_any := He.free_ok X G (c.fact 36 (f := .free "any") rfl)
    b_int := He.free_ok X G (c.fact 37 (f := .free "int") rfl)
    b_abs := He.free_ok X G (c.fact 38 (f := .free "abs") rfl)
    b_range := He.free_ok X G (c.fact 39 (f := .free "range") rfl)
    b_zip := He.free_ok X G (c.fact 40 (f := .free "zip") rfl)
    cl_Line := He.cls_ok (c.fact 41 (f := .cls "Line") rfl)
    no_Line_runs := He.noat_ok (c.fact 42 (f := .noat "Line" "runs") rfl)
    no_Line_width := He.noat_ok (c.fact 43 (f := .noat "Line" "width") rfl)
    mk_Line := He.mkr_ok (c.fact 44 (f := .mkr "Line") rfl)
    me_Line_add := He.meth_ok (c.fact 45 (f := .meth "Line" "add") rfl)
    me_Line_shift := He.meth_ok (c.fact 46 (f := .meth "Line" "shift") rfl)
    cl_Breaker := He.cls_ok (c.fact 47 (f := .cls "Breaker") rfl)
    no_Breaker_limit := He.noat_ok (c.fact 48 (f := .noat "Breaker" "limit") rfl)
    no_Breaker_lines := He.noat_ok (c.fact 49 (f := .noat "Breaker" "lines") rfl)
    no_Breaker_space := He.noat_ok (c.fact 50 (f := .noat "Breaker" "space") rfl)
    mk_Breaker := He.mkr_ok (c.fact 51 (f := .mkr "Breaker") rfl)
    me_Breaker_last := He.meth_ok (c.fact 52 (f := .meth "Breaker" "last") rfl)
    me_Breaker_put := He.meth_ok (c.fact 53 (f := .meth "Breaker" "put") rfl)
    me_Breaker_put_word := He.meth_ok (c.fact 54 (f := .meth "Breaker" "put_word") rfl)
    x_PageError := He.exc_ok (c.fact 55 (f := .exc "PageError") rfl)
    x_MarkupError := He.exc_ok (c.fact 57 (f := .exc "MarkupError") rfl)
    x_TreeError := He.exc_ok (c.fact 59 (f := .exc "TreeError") rfl)
    cl_Piece := He.cls_ok (c.fact 61 (f := .cls "Piece") rfl)
    no_Piece_kind := He.noat_ok (c.fact 62 (f := .noat "Piece" "kind") rfl)
    no_Piece_text := He.noat_ok (c.fact 63 (f := .noat "Piece" "text") rfl)
    no_Piece_node := He.noat_ok (c.fact 64 (f := .noat "Piece" "node") rfl)
    no_Piece_width := He.noat_ok (c.fact 65 (f := .noat "Piece" "width") rfl)
    mk_Piece := He.mkr_ok (c.fact 66 (f := .mkr "Piece") rfl)
    me_Piece_shown := He.meth_ok (c.fact 67 (f := .meth "Piece" "shown") rfl)
    cl_Node := He.cls_ok (c.fact 68 (f := .cls "Node") rfl)
    no_Node_number := He.noat_ok (c.fact 69 (f := .noat "Node" "number") rfl)
    no_Node_tag := He.noat_ok (c.fact 70 (f := .noat "Node" "tag") rfl)
    no_Node_text := He.noat_ok (c.fact 71 (f := .noat "Node" "text") rfl)
    no_Node_attributes := He.noat_ok (c.fact 72 (f := .noat "Node" "attributes") rfl)
    no_Node_children := He.noat_ok (c.fact 73 (f := .noat "Node" "children") rfl)
    no_Node_parent := He.noat_ok (c.fact 74 (f := .noat "Node" "parent") rfl)
    no_Node_value := He.noat_ok (c.fact 75 (f := .noat "Node" "value") rfl)
    no_Node_checked := He.noat_ok (c.fact 76 (f := .noat "Node" "checked") rfl)
    mk_Node := He.mkr_ok (c.fact 77 (f := .mkr "Node") rfl)
    me_Node_is_text := He.meth_ok (c.fact 78 (f := .meth "Node" "is_text") rfl)
    me_Node_attribute := He.meth_ok (c.fact 79 (f := .meth "Node" "attribute") rfl)
    me_Node_class_words := He.meth_ok (c.fact 80 (f := .meth "Node" "class_words") rfl)
    me_Node_element_children := He.meth_ok (c.fact 81 (f := .meth "Node" "element_children") rfl)
    me_Node_place_in := He.meth_ok (c.fact 82 (f := .meth "Node" "place_in") rfl)
    me_Node_path := He.meth_ok (c.fact 83 (f := .meth "Node" "path") rfl)
    me_Node_levels_below := He.meth_ok (c.fact 84 (f := .meth "Node" "levels_below") rfl)
    me_Node_all_nodes := He.meth_ok (c.fact 85 (f := .meth "Node" "all_nodes") rfl)
    me_Node_content := He.meth_ok (c.fact 86 (f := .meth "Node" "content") rfl)
    me_Node_shown := He.meth_ok (c.fact 87 (f := .meth "Node" "shown") rfl)
    cl_Document := He.cls_ok (c.fact 88 (f := .cls "Document") rfl)
    no_Document_nodes := He.noat_ok (c.fact 89 (f := .noat "Document" "nodes") rfl)
    no_Document_next_number := He.noat_ok (c.fact 90 (f := .noat "Document" "next_number") rfl)
    no_Document_root := He.noat_ok (c.fact 91 (f := .noat "Document" "root") rfl)
    no_Document_version := He.noat_ok (c.fact 92 (f := .noat "Document" "version") rfl)
    mk_Document := He.mkr_ok (c.fact 93 (f := .mkr "Document") rfl)
    me_Document_make := He.meth_ok (c.fact 94 (f := .meth "Document" "make") rfl)
    me_Document_node_of := He.meth_ok (c.fact 95 (f := .meth "Document" "node_of") rfl)
    me_Document_append := He.meth_ok (c.fact 96 (f := .meth "Document" "append") rfl)
    me_Document_place_before := He.meth_ok (c.fact 97 (f := .meth "Document" "place_before") rfl)
    me_Document_remove := He.meth_ok (c.fact 98 (f := .meth "Document" "remove") rfl)
    me_Document_set_attribute := He.meth_ok (c.fact 99 (f := .meth "Document" "set_attribute") rfl)
    me_Document_set_text := He.meth_ok (c.fact 100 (f := .meth "Document" "set_text") rfl)
    me_Document_by_id := He.meth_ok (c.fact 101 (f := .meth "Document" "by_id") rfl)
    cl_Scanner := He.cls_ok (c.fact 102 (f := .cls "Scanner") rfl)
    no_Scanner_text := He.noat_ok (c.fact 103 (f := .noat "Scanner" "text") rfl)
    no_Scanner_place := He.noat_ok (c.fact 104 (f := .noat "Scanner" "place") rfl)
    mk_Scanner := He.mkr_ok (c.fact 105 (f := .mkr "Scanner") rfl)
    me_Scanner_here := He.meth_ok (c.fact 106 (f := .meth "Scanner" "here") rfl)
    me_Scanner_skip_blanks := He.meth_ok (c.fact 107 (f := .meth "Scanner" "skip_blanks") rfl)
    me_Scanner_read_name := He.meth_ok (c.fact 108 (f := .meth "Scanner" "read_name") rfl)
    me_Scanner_up_to := He.meth_ok (c.fact 109 (f := .meth "Scanner" "up_to") rfl)
    cl_TreeBuilder := He.cls_ok (c.fact 110 (f := .cls "TreeBuilder") rfl)
    no_TreeBuilder_scanner := He.noat_ok (c.fact 111 (f := .noat "TreeBuilder" "scanner") rfl)
    no_TreeBuilder_document := He.noat_ok (c.fact 112 (f := .noat "TreeBuilder" "document") rfl)
    no_TreeBuilder_open_nodes := He.noat_ok (c.fact 113 (f := .noat "TreeBuilder" "open_nodes") rfl)
    mk_TreeBuilder := He.mkr_ok (c.fact 114 (f := .mkr "TreeBuilder") rfl)
    me_TreeBuilder_build := He.meth_ok (c.fact 115 (f := .meth "TreeBuilder" "build") rfl)
    me_TreeBuilder_text_run := He.meth_ok (c.fact 116 (f := .meth "TreeBuilder" "text_run") rfl)
    me_TreeBuilder_start_tag := He.meth_ok (c.fact 117 (f := .meth "TreeBuilder" "start_tag") rfl)
    me_TreeBuilder_close_before := He.meth_ok (c.fact 118 (f := .meth "TreeBuilder" "close_before") rfl)
    me_TreeBuilder_read_attributes := He.meth_ok (c.fact 119 (f := .meth "TreeBuilder" "read_attributes") rfl)
    me_TreeBuilder_end_tag := He.meth_ok (c.fact 120 (f := .meth "TreeBuilder" "end_tag") rfl)
    t_VOID := fun H => He.tupB_ok z0 H
    t_BLOCKS := fun H => He.tupB_ok z1 H
    t_RAW := fun H => He.tupB_ok z2 H
  }
def nm_Line : List Str := ["runs", "width"]
theorem fd_Line_runs {K : PySem.W.Frag} {mg : Str → Option Value} (T : Tx K mg) : Dn.FldI K (He.ga K "Line") nm_Line "runs" 0 := ⟨T.cl_Line, T.no_Line_runs, by decide +kernel, rfl, by decide⟩
theorem fd_Line_width {K : PySem.W.Frag} {mg : Str → Option Value} (T : Tx K mg) : Dn.FldI K (He.ga K "Line") nm_Line "width" 1 := ⟨T.cl_Line, T.no_Line_width, by decide +kernel, rfl, by decide⟩
def nm_Breaker : List Str := ["limit", "lines", "space"]
theorem fd_Breaker_limit {K : PySem.W.Frag} {mg : Str → Option Value} (T : Tx K mg) : Dn.FldI K (He.ga K "Breaker") nm_Breaker "limit" 0 := ⟨T.cl_Breaker, T.no_Breaker_limit, by decide +kernel, rfl, by decide⟩
theorem fd_Breaker_lines {K : PySem.W.Frag} {mg : Str → Option Value} (T : Tx K mg) : Dn.FldI K (He.ga K "Breaker") nm_Breaker "lines" 1 := ⟨T.cl_Breaker, T.no_Breaker_lines, by decide +kernel, rfl, by decide⟩
theorem fd_Breaker_space {K : PySem.W.Frag} {mg : Str → Option Value} (T : Tx K mg) : Dn.FldI K (He.ga K "Breaker") nm_Breaker "space" 2 := ⟨T.cl_Breaker, T.no_Breaker_space, by decide +kernel, rfl, by decide⟩
def nm_Piece : List Str := ["kind", "text", "node", "width"]
theorem fd_Piece_kind {K : PySem.W.Frag} {mg : Str → Option Value} (T : Tx K mg) : Dn.FldI K (He.ga K "Piece") nm_Piece "kind" 0 := ⟨T.cl_Piece, T.no_Piece_kind, by decide +kernel, rfl, by decide⟩
theorem fd_Piece_text {K : PySem.W.Frag} {mg : Str → Option Value} (T : Tx K mg) : Dn.FldI K (He.ga K "Piece") nm_Piece "text" 1 := ⟨T.cl_Piece, T.no_Piece_text, by decide +kernel, rfl, by decide⟩
theorem fd_Piece_node {K : PySem.W.Frag} {mg : Str → Option Value} (T : Tx K mg) : Dn.FldI K (He.ga K "Piece") nm_Piece "node" 2 := ⟨T.cl_Piece, T.no_Piece_node, by decide +kernel, rfl, by decide⟩
theorem fd_Piece_width {K : PySem.W.Frag} {mg : Str → Option Value} (T : Tx K mg) : Dn.FldI K (He.ga K "Piece") nm_Piece "width" 3 := ⟨T.cl_Piece, T.no_Piece_width, by decide +kernel, rfl, by decide⟩
def nm_Node : List Str := ["number", "tag", "text", "attributes", "children", "parent", "value", "checked"]
theorem fd_Node_number {K : PySem.W.Frag} {mg : Str → Option Value} (T : Tx K mg) : Dn.FldI K (He.ga K "Node") nm_Node "number" 0 := ⟨T.cl_Node, T.no_Node_number, by decide +kernel, rfl, by decide⟩
theorem fd_Node_tag {K : PySem.W.Frag} {mg : Str → Option Value} (T : Tx K mg) : Dn.FldI K (He.ga K "Node") nm_Node "tag" 1 := ⟨T.cl_Node, T.no_Node_tag, by decide +kernel, rfl, by decide⟩
theorem fd_Node_text {K : PySem.W.Frag} {mg : Str → Option Value} (T : Tx K mg) : Dn.FldI K (He.ga K "Node") nm_Node "text" 2 := ⟨T.cl_Node, T.no_Node_text, by decide +kernel, rfl, by decide⟩
theorem fd_Node_attributes {K : PySem.W.Frag} {mg : Str → Option Value} (T : Tx K mg) : Dn.FldI K (He.ga K "Node") nm_Node "attributes" 3 := ⟨T.cl_Node, T.no_Node_attributes, by decide +kernel, rfl, by decide⟩
theorem fd_Node_children {K : PySem.W.Frag} {mg : Str → Option Value} (T : Tx K mg) : Dn.FldI K (He.ga K "Node") nm_Node "children" 4 := ⟨T.cl_Node, T.no_Node_children, by decide +kernel, rfl, by decide⟩
theorem fd_Node_parent {K : PySem.W.Frag} {mg : Str → Option Value} (T : Tx K mg) : Dn.FldI K (He.ga K "Node") nm_Node "parent" 5 := ⟨T.cl_Node, T.no_Node_parent, by decide +kernel, rfl, by decide⟩
theorem fd_Node_value {K : PySem.W.Frag} {mg : Str → Option Value} (T : Tx K mg) : Dn.FldI K (He.ga K "Node") nm_Node "value" 6 := ⟨T.cl_Node, T.no_Node_value, by decide +kernel, rfl, by decide⟩
theorem fd_Node_checked {K : PySem.W.Frag} {mg : Str → Option Value} (T : Tx K mg) : Dn.FldI K (He.ga K "Node") nm_Node "checked" 7 := ⟨T.cl_Node, T.no_Node_checked, by decide +kernel, rfl, by decide⟩
def nm_Document : List Str := ["nodes", "next_number", "root", "version"]
theorem fd_Document_nodes {K : PySem.W.Frag} {mg : Str → Option Value} (T : Tx K mg) : Dn.FldI K (He.ga K "Document") nm_Document "nodes" 0 := ⟨T.cl_Document, T.no_Document_nodes, by decide +kernel, rfl, by decide⟩
theorem fd_Document_next_number {K : PySem.W.Frag} {mg : Str → Option Value} (T : Tx K mg) : Dn.FldI K (He.ga K "Document") nm_Document "next_number" 1 := ⟨T.cl_Document, T.no_Document_next_number, by decide +kernel, rfl, by decide⟩
theorem fd_Document_root {K : PySem.W.Frag} {mg : Str → Option Value} (T : Tx K mg) : Dn.FldI K (He.ga K "Document") nm_Document "root" 2 := ⟨T.cl_Document, T.no_Document_root, by decide +kernel, rfl, by decide⟩
theorem fd_Document_version {K : PySem.W.Frag} {mg : Str → Option Value} (T : Tx K mg) : Dn.FldI K (He.ga K "Document") nm_Document "version" 3 := ⟨T.cl_Document, T.no_Document_version, by decide +kernel, rfl, by decide⟩
def nm_Scanner : List Str := ["text", "place"]
theorem fd_Scanner_text {K : PySem.W.Frag} {mg : Str → Option Value} (T : Tx K mg) : Dn.FldI K (He.ga K "Scanner") nm_Scanner "text" 0 := ⟨T.cl_Scanner, T.no_Scanner_text, by decide +kernel, rfl, by decide⟩
theorem fd_Scanner_place {K : PySem.W.Frag} {mg : Str → Option Value} (T : Tx K mg) : Dn.FldI K (He.ga K "Scanner") nm_Scanner "place" 1 := ⟨T.cl_Scanner, T.no_Scanner_place, by decide +kernel, rfl, by decide⟩
def nm_TreeBuilder : List Str := ["scanner", "document", "open_nodes"]
theorem fd_TreeBuilder_scanner {K : PySem.W.Frag} {mg : Str → Option Value} (T : Tx K mg) : Dn.FldI K (He.ga K "TreeBuilder") nm_TreeBuilder "scanner" 0 := ⟨T.cl_TreeBuilder, T.no_TreeBuilder_scanner, by decide +kernel, rfl, by decide⟩
theorem fd_TreeBuilder_document {K : PySem.W.Frag} {mg : Str → Option Value} (T : Tx K mg) : Dn.FldI K (He.ga K "TreeBuilder") nm_TreeBuilder "document" 1 := ⟨T.cl_TreeBuilder, T.no_TreeBuilder_document, by decide +kernel, rfl, by decide⟩
theorem fd_TreeBuilder_open_nodes {K : PySem.W.Frag} {mg : Str → Option Value} (T : Tx K mg) : Dn.FldI K (He.ga K "TreeBuilder") nm_TreeBuilder "open_nodes" 2 := ⟨T.cl_TreeBuilder, T.no_TreeBuilder_open_nodes, by decide +kernel, rfl, by decide⟩
end K05


/-! any and all of what changes nothing; texts of a row; in -/
namespace Dn
open PySem PySem.Spec PyProof.Rows L2 Pr LamX NdefX
/-- the items are f of things -/
theorem anyT_map {α : Type} {δw : DS} {stop : Bool} {g : DTG} {tt : DTT} {te : DTE} {xs : List α} {f : α → Dt} {l : List Dt} (hl : l = xs.map f) {keep : Store → Prop} {q : DK} {S1 : Store} (p : α → Bool) (hk : keep S1)
    (h : ∀ x ∈ xs, ∀ (C : Store → Bool → Prop) (D : Store → Prop), C S1 (p x) → g (f x) δw S1 fun δ' S' => tt δ' S' fun b S2 => Ift b (te δ' S2 fun y S3 => ∃ k, y = .bl k ∧ C S3 k) (D S2))
    (hq : q (.bl (if stop then xs.any p else xs.all p)) S1) : dAnyT δw stop g tt te l keep q S1 := by
  subst hl
  refine ⟨fun i S => S = S1 ∧ ∀ j d, j < i → xs[j]? = some d → p d = !stop, ⟨rfl, fun j d hj => absurd hj (Nat.not_lt_zero _)⟩, fun i S _ z => by rw [z.1]; exact hk, fun i d S hd z => ?_, fun S z => ?_⟩
  · obtain ⟨rfl, z⟩ := z
    rw [List.getElem?_map] at hd
    obtain ⟨x, hx, rfl⟩ := Option.map_eq_some_iff.mp hd
    have hm := List.mem_of_getElem? hx
    refine h x hm (fun S3 k => stopIf stop k (q (.bl stop) S3) (S3 = S ∧ ∀ j d, j < i + 1 → xs[j]? = some d → p d = !stop)) _ ?_
    have nx : p x = (!stop) → ∀ j d, j < i + 1 → xs[j]? = some d → p d = !stop := fun e j d' hj hd' => by
      rcases Nat.lt_succ_iff_lt_or_eq.mp hj with hj | rfl
      · exact z j d' hj hd'
      · rw [hx] at hd'
        cases hd'
        exact e
    cases stop with
    | true =>
      cases e : p x with
      | true =>
        show q (.bl true) S
        have : xs.any p = true := List.any_eq_true.mpr ⟨x, hm, e⟩
        rw [if_pos rfl, this] at hq
        exact hq
      | false => exact ⟨rfl, nx e⟩
    | false =>
      cases e : p x with
      | true => exact ⟨rfl, nx e⟩
      | false =>
        show q (.bl false) S
        have : xs.all p = false := by
          rw [← Bool.not_eq_true]
          intro ha
          rw [List.all_eq_true.mp ha x hm] at e
          cases e
        rw [if_neg (by decide), this] at hq
        exact hq
  · obtain ⟨rfl, z⟩ := z
    have all : ∀ d ∈ xs, p d = !stop := fun d hd => by
      obtain ⟨j, hj⟩ := List.getElem?_of_mem hd
      exact z j d (by rw [List.length_map]; exact (List.getElem?_eq_some_iff.mp hj).1) hj
    cases stop with
    | true =>
      have : xs.any p = false := by
        rw [← Bool.not_eq_true]
        intro ha
        obtain ⟨d, hd, e⟩ := List.any_eq_true.mp ha
        rw [all d hd] at e
        cases e
      rw [if_pos rfl, this] at hq
      exact hq
    | false =>
      have : xs.all p = true := List.all_eq_true.mpr fun d hd => all d hd
      rw [if_neg (by decide), this] at hq
      exact hq
theorem any_map {α : Type} {δw : DS} {g : DTG} {tt : DTT} {te : DTE} {xs : List α} {f : α → Dt} {l : List Dt} (hl : l = xs.map f) {keep : Store → Prop} {q : DK} {S1 : Store} (p : α → Bool) (hk : keep S1)
    (h : ∀ x ∈ xs, ∀ (C : Store → Bool → Prop) (D : Store → Prop), C S1 (p x) → g (f x) δw S1 fun δ' S' => tt δ' S' fun b S2 => Ift b (te δ' S2 fun y S3 => ∃ k, y = .bl k ∧ C S3 k) (D S2))
    (hq : q (.bl (xs.any p)) S1) : dAnyT δw true g tt te l keep q S1 := anyT_map hl p hk h hq
theorem memD_strs {z : Str} {l : List Str} : memD (.str z) (l.map Dt.str) = decide (z ∈ l) := (tells_enc (α := Str)).mem z l
theorem in_tupS {z : Str} {l : List Dt} {m : List Str} {neg : Bool} {S : Store} {q : DK} (e : l = m.map Dt.str) (h : q (.bl (if neg then !decide (z ∈ m) else decide (z ∈ m))) S) : dIn neg (.str z) (.tup l) S q := by
  subst e
  refine ⟨⟨rfl, rfl, ?_⟩, by rw [memD_strs]; exact h⟩
  rw [List.all_eq_true]
  intro d hd
  obtain ⟨y, _, rfl⟩ := List.mem_map.mp hd
  rfl
theorem szX {n : Nat} (h : n ≤ 16777216) : n ≤ sizeLine := h
theorem in_str {y z : Str} {S : Store} {q : DK} (h : q (.bl (hasS z y)) S) : dIn false (.str y) (.str z) S q := ⟨y, rfl, h⟩
theorem nin_str {y z : Str} {S : Store} {q : DK} (h : q (.bl (!hasS z y)) S) : dIn true (.str y) (.str z) S q := ⟨y, rfl, h⟩
/-! written texts, numbers as texts -/
end Dn

/-! equal dicts, owned or still -/
namespace Dn
open PySem PySem.Spec PyProof.Rows L2 Pr LamX NdefX
section
variable {X : Cx} {K : PySem.W.Frag}
end
section
variable {S : Store} {q : DK}
theorem in_tup {z : Str} {l : List Dt} (m : List Str) (e : l = m.map Dt.str) (h : q (.bl (decide (z ∈ m))) S) : dIn false (.str z) (.tup l) S q := in_tupS e (by rw [if_neg (by decide)]; exact h)
theorem nin_tup {z : Str} {l : List Dt} (m : List Str) (e : l = m.map Dt.str) (h : q (.bl (!decide (z ∈ m))) S) : dIn true (.str z) (.tup l) S q := in_tupS e (by rw [if_pos rfl]; exact h)
end
theorem cut_len {z : Str} {lo hi : Option Int} : (cutS z lo hi).length ≤ z.length := by
  rw [len_cps, len_cps]
  unfold cutS
  simp
  omega
open PySem.Builtin.Str (strSub partsBetween) in
theorem sub_len {a : Str} {i j : Nat} : (strSub a i j).length ≤ a.length := by
  have e := StrLaws.strSub_toList a i j
  rw [len_cps, len_cps, e, List.length_take, List.length_drop]
  omega
theorem split_len {a b : Str} : ∀ x ∈ Txt.split a b, x.length ≤ a.length := fun x hx => by
  unfold Txt.split at hx
  split at hx
  · rw [List.mem_singleton.mp hx]; exact Nat.le_refl _
  · split at hx
    · rw [List.mem_singleton.mp hx]; exact Nat.le_refl _
    · unfold Builtin.Str.partsBetween at hx
      obtain ⟨p, _, rfl⟩ := List.mem_map.mp hx
      exact sub_len
theorem cutD_from1 {l : List Dt} : cutD l (some 1) none = l.drop 1 := by
  unfold cutD
  cases l with
  | nil => rfl
  | cons x r =>
    have e1 : HT.sIx (x :: r).length 0 (some 1) = 1 := by
      unfold HT.sIx
      simp
    have e2 : HT.sIx (x :: r).length (x :: r).length none = (x :: r).length := rfl
    rw [e1, e2]
    simp
end Dn

/-! texts that were joined: split and words give the parts back -/
namespace Dn
open PySem PySem.Spec PyProof.Rows L2 Pr
theorem st_ext {a b : Str} (h : a.cps.toList = b.cps.toList) : a = b := Str.ext' (Array.toList_inj.mp h)
/-! parts free of a sign -/
theorem join_cons2 {s x y : Str} {r : List Str} : (Str.join s (x :: y :: r)).cps.toList = x.cps.toList ++ (s.cps.toList ++ (Str.join s (y :: r)).cps.toList) := by
  show (x ++ s ++ Str.join s (y :: r)).cps.toList = _
  rw [app_cps, app_cps, List.append_assoc]
end Dn

/-! three names at once -/
namespace Dn
open PySem PySem.Spec PyProof.Rows L2 Pr LamX
section
variable {X : Cx} {K : PySem.W.Frag} {E : XK} {e : DX} {a b c : Expr} {ts : DTA} {pos : Pos}
end
end Dn

/-! texts joined: their signs and lengths -/
namespace Dn
open PySem PySem.Spec PyProof.Rows L2 Pr LamX
theorem join_signs {s : Str} {c : Nat} : ∀ {ys : List Str}, c ∈ (Str.join s ys).cps.toList → c ∈ s.cps.toList ∨ ∃ y ∈ ys, c ∈ y.cps.toList
  | [], h => by simp [Str.join, Str.empty] at h
  | [x], h => .inr ⟨x, List.mem_cons_self, h⟩
  | x :: y :: r, h => by
    rw [join_cons2] at h
    rcases List.mem_append.mp h with h | h
    · exact .inr ⟨x, List.mem_cons_self, h⟩
    · rcases List.mem_append.mp h with h | h
      · exact .inl h
      · rcases join_signs h with h | ⟨z, hz, h⟩
        · exact .inl h
        · exact .inr ⟨z, List.mem_cons_of_mem _ hz, h⟩
theorem join_len {s : Str} {k : Nat} : ∀ {ys : List Str}, (∀ y ∈ ys, y.length ≤ k) → (Str.join s ys).length ≤ ys.length * (k + s.length)
  | [], _ => Nat.zero_le _
  | [x], h => by
    have := h x List.mem_cons_self
    show x.length ≤ 1 * (k + s.length)
    omega
  | x :: y :: r, h => by
    have h1 := h x List.mem_cons_self
    have h2 := join_len (s := s) (ys := y :: r) fun z hz => h z (List.mem_cons_of_mem _ hz)
    rw [len_cps, join_cons2, List.length_append, List.length_append, ← len_cps, ← len_cps, ← len_cps, List.length_cons, Nat.add_mul]
    omega
theorem sok_join {s : Str} {k : Nat} {ys : List Str} (hs : SOk s) (hy : ∀ y ∈ ys, SOk y ∧ y.length ≤ k) (hb : ys.length * (k + s.length) ≤ 16777216) : SOk (Txt.join s ys) ∧ (Txt.join s ys).length ≤ ys.length * (k + s.length) := by
  rw [TL.join_eq]
  have h1 := join_len (s := s) (ys := ys) fun y h => (hy y h).2
  refine ⟨⟨Nat.le_trans h1 hb, ?_⟩, h1⟩
  rw [sok_all]
  intro c hc
  rcases join_signs hc with h | ⟨y, h, h2⟩
  · exact sok_all.mp hs.ok c h
  · exact sok_all.mp (hy y h).1.ok c h2
theorem sum_len {k : Nat} : ∀ {ys : List Str}, (∀ y ∈ ys, y.length ≤ k) → (ys.map (·.length)).sum ≤ ys.length * k
  | [], _ => Nat.zero_le _
  | x :: r, h => by
    have h1 := h x List.mem_cons_self
    have h2 := sum_len (ys := r) fun z hz => h z (List.mem_cons_of_mem _ hz)
    rw [List.map_cons, List.sum_cons, List.length_cons, Nat.add_mul]
    omega
theorem join_go {s : Str} {k : Nat} {ys : List Str} {x : Dt} {S : Store} {q : DK} (hx : x = .tup (ys.map Dt.str) ∨ x = .lst (ys.map Dt.str)) (hs : SOk s) (hy : ∀ y ∈ ys, SOk y ∧ y.length ≤ k) (hb : ys.length * (k + s.length) ≤ 16777216) (h : q (.str (Txt.join s ys)) S) : rmJoin (.str s) [x] S q := by
  have g : ∃ zs : List Str, ys.map Dt.str = zs.map Dt.str ∧ ((zs.map (·.length)).sum + zs.length * s.length ≤ 16777216 ∧ SOk (Txt.join s zs)) ∧ q (.str (Txt.join s zs)) S := by
    refine ⟨ys, rfl, ⟨?_, (sok_join hs hy hb).1⟩, h⟩
    have := sum_len (ys := ys) fun y h => (hy y h).2
    rw [Nat.mul_add] at hb
    omega
  rcases hx with rfl | rfl
  · exact g
  · exact g
theorem sok_of {z : Str} (h : (decide (z.length ≤ 16777216) && PySem.PyData.strOk z) = true) : SOk z := by
  rw [Bool.and_eq_true, decide_eq_true_iff] at h
  exact ⟨h.1, h.2⟩
end Dn

/-! sorted of data; sorted by a key -/
namespace Dn
open PySem PySem.Spec PyProof.Rows L2 Pr
open PySem.W (EachIs AllAlike Sortable dataLe)
section
variable {X : Cx} {K : PySem.W.Frag}
end
/-! ## by a key -/
section
variable {X : Cx} {pins : List (Addr × Obj)} {σ : L2.St} {H : Hp} {s : Shared}
/-- an object of ours changes: all that must be known of its address -/
structure Ours (X : Cx) (pins : List (Addr × Obj)) (D : Addr) : Prop where
  new : X.s_0.heap.objs.size ≤ D
  loc : D ≠ X.env.locals
  cel : ∀ x c, X.env.cells.lookup x = some c → c ≠ D
  fs : D ∉ X.fs
  pin : ∀ p ∈ X.pn ++ pins, p.1 ≠ D
theorem Ours.more {D : Addr} (O : Ours X pins D) {p : Addr × Obj} (h : p.1 ≠ D) : Ours X (p :: pins) D := ⟨O.new, O.loc, O.cel, O.fs, fun q hq => by
  rcases List.mem_append.mp hq with z | z
  · exact O.pin q (List.mem_append_left _ z)
  · rcases List.mem_cons.mp z with rfl | z
    · exact h
    · exact O.pin q (List.mem_append_right _ z)⟩
end
end Dn

/-! sorted(xs, key=f): f a def or a lambda that changes nothing -/
namespace Dn
open PySem PySem.Spec PyProof.Rows L2 Pr
open PySem.W (EachIs AllAlike Sortable dataLe SortsAt copyHeap sortingHeap sortVals sort_out)
section
variable {prog : Program} {w : World} {A : Around} {E : Value → Shared → Prop} {s : Shared} {D kS : Addr} {vs : List Value} {keys : Array Value} {e e1 : Nat} {P : PySem.Fin → Shared → Prop}
end
/-- what the call of the key's function gives: the key of each item, and nothing changes -/
def Turn (X : Cx) (K : PySem.W.Frag) (f : Value) (key : Dt → Dt) (l : List Dt) (G : Hp) (S : Store) (Z : Hp) : Prop :=
  ∀ (d : Dt) (pins : List (Addr × Obj)) (σ : L2.St) (H : Hp) (s : Shared) (u : V) (v : Value), d ∈ l → Inv X pins σ H s → Good K Z H S → Ext G (out H S Z) → Rep K (out H S Z) d u → RelV u v →
    wpAny (model X.prog X.w) X.A.in1.in1 (call f [v]) (EP X pins σ fun y H' => Good K Z H' S ∧ Ext (out H S Z) (out H' S Z) ∧ Rep K (out H' S Z) (key d) y) (fun _ _ => False) s
section
variable {X : Cx} {pins : List (Addr × Obj)} {σ : L2.St} {H : Hp} {s : Shared} {K : PySem.W.Frag} {Z : Hp} {S : Store} {l : List Dt} {vs : List V} {us : List Value} {f : Value} {key : Dt → Dt} {a : Addr} {Q : VK}
end
end Dn

/-! sorted(xs, key=f) as rules -/
namespace Dn
open PySem PySem.Spec PyProof.Rows L2 Pr LamX NdefX
section
variable {X : Cx} {K : PySem.W.Frag} {E : XK} {e : DX} {k j : Nat} {a : Expr} {da : DTA} {c : DSp}
theorem see_eq {x : Dt} {S : Store} {k : List Dt → Prop} (h : seeL x S k) : ∃ l, (seeL x S fun m => m = l) ∧ k l := by
  cases x with
  | lst l => exact ⟨l, rfl, h⟩
  | ref a => obtain ⟨l, h1, h2⟩ := h; exact ⟨l, ⟨l, h1, rfl⟩, h2⟩
  | _ => exact h.elim
end
end Dn

/-! an attribute among several targets; what stands still from now on -/
namespace Dn
open PySem PySem.Spec PyProof.Rows L2 Pr LamX NdefX
section
variable {X : Cx} {K : PySem.W.Frag} {E : XK} {e : DX} {o : Expr} {da : DTE} {C : Addr} {nm : List Str} {f : Str} {i : Nat} {pos : Pos} {st : Stmt} {t : DTS}
end
/-! a list against the empty one -/
@[reducible] def nilD (x : Dt) (S : Store) (k : Prop) : Prop := seeL x S fun m => match m with
  | [] => k
  | _ => False
@[reducible] def dEqN : D2 := fun x y S q => seeL x S fun l => nilD y S (q (.bl l.isEmpty) S)
@[reducible] def dNeN : D2 := fun x y S q => seeL x S fun l => nilD y S (q (.bl (!l.isEmpty)) S)
section
variable {X : Cx} {K : PySem.W.Frag}
theorem nil_of {x : Dt} {S : Store} {k : Prop} (h : nilD x S k) : (seeL x S fun m => m = []) ∧ k := by
  have go : ∀ m : List Dt, (match m with
    | [] => k
    | _ => False) → m = [] ∧ k := fun m h => by
    cases m with
    | nil => exact ⟨rfl, h⟩
    | cons a b => exact h.elim
  cases x with
  | lst m => exact go m h
  | ref a =>
    obtain ⟨m, h1, h2⟩ := h
    obtain ⟨rfl, h3⟩ := go m h2
    exact ⟨⟨[], h1, rfl⟩, h3⟩
  | _ => exact h.elim
theorem nil_lists {pins : List (Addr × Obj)} {σ : L2.St} {H : Hp} {s : Shared} {Z : Hp} {S : Store} {dx dy : Dt} {x y : V} {v u : Value} {k : Prop} {kk : List Dt → Prop} (I : Inv X pins σ H s) (g : Good K Z H S) (rx : Rep K (out H S Z) dx x) (ry : Rep K (out H S Z) dy y) (rv : RelV x v) (ru : RelV y u) (h : seeL dx S kk) (hk : ∀ l, kk l → nilD dy S k ∧ True) :
    ∃ a b its l, v = .ref a ∧ u = .ref b ∧ s.heap.IsList a its ∧ s.heap.IsList b #[] ∧ its.size = l.length ∧ kk l ∧ k := by
  obtain ⟨a, vs, l, rfl, h1, h2, h3⟩ := see_lst g rx h
  obtain ⟨h4, hk⟩ := nil_of (hk l h3).1
  obtain ⟨b, ws, m, rfl, h5, h6, rfl⟩ := see_lst g ry h4
  obtain rfl : ws = [] := h6
  obtain ⟨its, r1, p1, _⟩ := I.list (SqL.of h1)
  obtain ⟨its2, r2, p2, _⟩ := I.list (SqL.of h5)
  cases r2
  obtain rfl : v = Value.ref a := rv
  obtain rfl : u = Value.ref b := ru
  exact ⟨a, b, its.toArray, l, rfl, rfl, p1.isList, p2.isList, by rw [List.size_toArray, ← r1.length, h2.len], h3, hk⟩
theorem size_nil {its : Array Value} {l : List Dt} (h : its.size = l.length) : (its.size != (#[] : Array Value).size) = !l.isEmpty := by
  rw [h]
  cases l with
  | nil => rfl
  | cons a b => rfl
theorem od_eqN (hu : X.A.units + 65 < cLine) : OpR X (compareOp .Eq) (rD K dEqN) := fun pins s σ H x y v u Q I rv ru ⟨dx, dy, S, Z, q, g, rx, ry, h, k⟩ => by
  obtain ⟨l0, hl0, hl1⟩ := see_eq h
  obtain ⟨a, b, its, l, rfl, rfl, p1, p2, hs, h3, h4⟩ := nil_lists (k := q (.bl l0.isEmpty) S) (kk := fun m => m = l0) I g rx ry rv ru hl0 (fun m e => ⟨hl1, trivial⟩)
  subst h3
  have hn := size_nil hs
  cases hl : l.isEmpty with
  | true =>
    rw [hl] at hn h4
    refine PySem.SeqAt.eq_listAt (e := fun _ => true) p1 p2 (by simpa using hn) (by omega) (fun j h1 h2 => absurd h2 (by simp)) ?_
    refine ⟨.bl _, H, I, rfl, ?_⟩
    have e0 : its.size = 0 := by simpa using hn
    rw [e0]
    exact k.here g h4 rfl
  | false =>
    rw [hl] at hn h4
    exact PySem.SeqAt.eq_list_lengthsAt p1 p2 (by simpa using hn) (by omega) ⟨.bl _, H, I, rfl, k.here g h4 rfl⟩
theorem od_neN (hu : X.A.units + 65 < cLine) : OpR X (compareOp .NotEq) (rD K dNeN) := fun pins s σ H x y v u Q I rv ru ⟨dx, dy, S, Z, q, g, rx, ry, h, k⟩ => by
  obtain ⟨l0, hl0, hl1⟩ := see_eq h
  obtain ⟨a, b, its, l, rfl, rfl, p1, p2, hs, h3, h4⟩ := nil_lists (k := q (.bl (!l0.isEmpty)) S) (kk := fun m => m = l0) I g rx ry rv ru hl0 (fun m e => ⟨hl1, trivial⟩)
  subst h3
  have hn := size_nil hs
  cases hl : l.isEmpty with
  | true =>
    rw [hl] at hn h4
    refine PySem.SeqAt.RcNeAt.lists (e := fun _ => true) p1 p2 (by simpa using hn) (by omega) (fun j h1 h2 => absurd h2 (by simp)) X.prog X.w _ _ ?_
    refine ⟨.bl _, H, I, rfl, ?_⟩
    have e0 : its.size = 0 := by simpa using hn
    rw [e0]
    exact k.here g h4 rfl
  | false =>
    rw [hl] at hn h4
    exact PySem.SeqAt.RcNeAt.lists_lengths p1 p2 (by simpa using hn) (by omega) X.prog X.w _ _ ⟨.bl _, H, I, rfl, k.here g h4 rfl⟩
end
end Dn

/-! sorting by numbers; three texts at once -/
namespace Dn
open PySem PySem.Spec PyProof.Rows L2 Pr
open PySem.W (EachIs AllAlike Sortable dataLe)
section
variable {S : Store} {q : DK}
end
end Dn

/-! dicts whose keys are tuples -/
namespace Dn
open PySem PySem.Spec PyProof.Rows L2 Pr
section
variable {X : Cx} {K : PySem.W.Frag} {E : XK} {e : DX} {pos pos' apos cpos : Pos} {a b c ex o : Expr} {es rest : List Expr} {da db dc : DTE} {ts : DTA}
end
end Dn

/-! enumerate over a text; min and max of three -/
namespace Dn
open PySem PySem.Spec PyProof.Rows L2 Pr
/-! min and max of three -/
end Dn

/-! equal data; a dict's items; comprehensions that map; numbers of a row -/
namespace Dn
open PySem PySem.Spec PyProof.Rows L2 Pr
mutual
theorem plain_of : ∀ d : Dt, isDat d = true → PyData.plain (py d) = true
  | .non, _ | .bl _, _ | .int _, _ | .str _, _ => rfl
  | .ref _, x | .ty _, x | .dic _, x | .obj _ _ _, x | .scr _, x | .lam _ _, x | .gco _ _, x => by simp [isDat] at x
  | .tup l, x => plains_of l x
  | .ptp l, x => plains_of l x
  | .lst l, x => plains_of l x
theorem plains_of : ∀ l : List Dt, areDat l = true → PyData.plainAll (pys l) = true
  | [], _ => rfl
  | d :: l, x => by
    have x : (isDat d && areDat l) = true := x
    rw [Bool.and_eq_true] at x
    show (PyData.plain (py d) && PyData.plainAll (pys l)) = true
    rw [plain_of d x.1, plains_of l x.2]
    rfl
end
theorem deqv_self {d : Dt} (h : isDat d = true) : deqv d d = true := PySem.SeqAt.eqv_refl_plain _ (plain_of d h)
theorem ne_self {d : Dt} {S : Store} {q : DK} (h : isDat d = true) (hd : (py d).depth ≤ 64) (hq : q (.bl false) S) : dNe d d S q := ⟨⟨h, h, hd, hd⟩, by rw [deqv_self h]; exact hq⟩
theorem eq_self {d : Dt} {S : Store} {q : DK} (h : isDat d = true) (hd : (py d).depth ≤ 64) (hq : q (.bl true) S) : dEq d d S q := ⟨⟨h, h, hd, hd⟩, by rw [deqv_self h]; exact hq⟩
/-- data of a depth -/
structure DatN (d : Dt) (n : Nat) : Prop where
  dat : isDat d = true
  dep : (py d).depth ≤ n
theorem DatN.lst {l : List Dt} {n : Nat} (h : ∀ d ∈ l, DatN d n) : DatN (.lst l) (n + 1) := ⟨areDat_of fun d hd => (h d hd).dat, Nat.succ_le_succ (pys_dep fun d hd => (h d hd).dep)⟩
theorem DatN.tup {l : List Dt} {n : Nat} (h : ∀ d ∈ l, DatN d n) : DatN (.tup l) (n + 1) := ⟨areDat_of fun d hd => (h d hd).dat, Nat.succ_le_succ (pys_dep fun d hd => (h d hd).dep)⟩
theorem DatN.ne {d : Dt} {n : Nat} {S : Store} {q : DK} (h : DatN d n) (hn : n ≤ 64) (hq : q (.bl false) S) : dNe d d S q := ne_self h.dat (Nat.le_trans h.dep hn) hq
theorem DatN.lstM {α : Type} {L : List α} {f : α → Dt} {n : Nat} (h : ∀ x ∈ L, DatN (f x) n) : DatN (.lst (L.map f)) (n + 1) := DatN.lst fun d hd => by
  obtain ⟨x, hx, rfl⟩ := List.mem_map.mp hd
  exact h x hx
/-! what a dict holds -/
section
variable {κ : Type} [DecidableEq κ]
theorem kGet_any (k : κ) : ∀ l : List (κ × Dt), (l.any fun p => decide (p.1 = k)) = (kGet l k).isSome
  | [] => rfl
  | p :: l => by
    unfold kGet
    rw [List.any_cons, List.find?_cons]
    by_cases h : p.1 = k
    · simp [h]
    · have := kGet_any k l
      unfold kGet at this
      simp [h, this]
theorem kPut_len (l : List (κ × Dt)) (k : κ) (d : Dt) : (kPut l k d).length ≤ l.length + 1 := by
  unfold kPut
  split
  · rw [List.length_map]; omega
  · rw [List.length_append]; exact Nat.le_refl _
end
/-! comprehensions that map, where nothing changes -/
section
variable {keep : Store → Prop} {g : DTG} {tt : DTT} {te : DTE} {q : List Dt → Store → Prop} {δ : DS} {S : Store}
theorem lc_map {α : Type} (enc : α → Dt) (f : α → Dt) (hk : keep S) (L : List α)
    (h : ∀ x ∈ L, ∀ (kY : Dt → Store → Prop) (kN : Store → Prop), kY (f x) S → g (enc x) δ S fun δ' S' => tt δ' S' fun b S2 => Ift b (te δ' S2 kY) (kN S2))
    (hq : q (L.map f) S) : lcGo keep g tt te q δ (L.map enc) [] S := by
  refine lcGo_pure enc (fun x => some (f x)) hk L [] (fun x hx kY kN hY _ => h x hx kY kN (hY _ rfl)) ?_
  rw [List.nil_append, show L.filterMap (fun x => some (f x)) = L.map f from congrFun List.filterMap_eq_map' L]
  exact hq
theorem filt_mapD {α β : Type} (enc : α → β) (p : α → Bool) : ∀ L : List α, L.filterMap (fun x => if p x = true then some (enc x) else none) = (L.filter p).map enc
  | [] => rfl
  | x :: r => by
    cases h : p x with
    | true => rw [List.filterMap_cons_some (b := enc x) (by simp [h]), List.filter_cons_of_pos h, List.map_cons, filt_mapD enc p r]
    | false => rw [List.filterMap_cons_none (by simp [h]), List.filter_cons_of_neg (by simp [h]), filt_mapD enc p r]
theorem lc_choose {α : Type} (enc : α → Dt) (p : α → Bool) (f : α → Dt) (hk : keep S) (L : List α)
    (h : ∀ x ∈ L, ∀ (kY : Dt → Store → Prop) (kN : Store → Prop), (p x = true → kY (f x) S) → (p x = false → kN S) → g (enc x) δ S fun δ' S' => tt δ' S' fun b S2 => Ift b (te δ' S2 kY) (kN S2))
    (hq : q ((L.filter p).map f) S) : lcGo keep g tt te q δ (L.map enc) [] S := by
  refine lcGo_pure enc (fun x => if p x = true then some (f x) else none) hk L [] (fun x hx kY kN hY hN => h x hx kY kN (fun e => hY _ (by rw [if_pos e])) (fun e => hN (by rw [e]; rfl))) ?_
  rw [List.nil_append, filt_mapD]
  exact hq
end
theorem dFor_eq (it : DTL) (g : DTG) (b : DTS) (D : DEnds) (δ : DS) (S : Store) : dFor it g b D δ S = it δ S fun l keep S1 => ∃ I : Nat → DS → Store → Prop, I 0 δ S1 ∧ (∀ i δ S, i ≤ l.length → I i δ S → keep S) ∧
  (∀ i d δ S, l[i]? = some d → I i δ S → g d δ S fun δ' S' => b { D with nx := I (i + 1), ct := I (i + 1), bk := D.nx } δ' S') ∧ ∀ δ S, I l.length δ S → D.nx δ S := rfl
theorem dLc_eq (it : DTL) (g : DTG) (w : List Nat) (tt : DTT) (te : DTE) (q : List Dt → Store → Prop) (δ : DS) (S : Store) : dLc it g w tt te q δ S = it δ S fun l keep S1 => l.length < sizeLine ∧ ∃ I : Nat → List Dt → Store → Prop, I 0 [] S1 ∧ (∀ i acc S, i ≤ l.length → I i acc S → keep S) ∧
  (∀ i d acc S, l[i]? = some d → I i acc S → g d (wipesS δ w) S fun δ' S' => tt δ' S' fun b S2 => Ift b (te δ' S2 fun y S3 => I (i + 1) (acc ++ [y]) S3) (I (i + 1) acc S2)) ∧ ∀ acc S, I l.length acc S → q acc S := rfl
/-! a for over a row, by an invariant over the index -/
section
variable {keep : Store → Prop} {g : DTG} {b : DTS} {D : DEnds}
theorem forGo_at {α : Type} (enc : α → Dt) (L : List α) (I : Nat → DS → Store → Prop) (hk : ∀ i δ S, I i δ S → keep S)
    (h : ∀ i x δ S, L[i]? = some x → I i δ S → ∀ nx : DS → Store → Prop, (∀ δ' S', I (i + 1) δ' S' → nx δ' S') → g (enc x) δ S fun δ' S' => b { D with nx := nx, ct := nx, bk := D.nx } δ' S')
    (fin : ∀ δ S, I L.length δ S → D.nx δ S) : ∀ {δ : DS} {S : Store}, I 0 δ S → forGo keep g b D (L.map enc) δ S := by
  have go : ∀ (M : List α) (k : Nat), M = L.drop k → k + M.length = L.length → ∀ δ S, I k δ S → forGo keep g b D (M.map enc) δ S := by
    intro M
    induction M with
    | nil => exact fun k e hl δ S i => ⟨hk _ _ _ i, fin δ S (by rw [← hl]; exact i)⟩
    | cons x M ih =>
      intro k e hl δ S i
      have ex : L[k]? = some x := by
        have := congrArg (fun l => l[0]?) e
        rw [List.getElem?_drop] at this
        simpa using this.symm
      refine ⟨hk _ _ _ i, h k x δ S ex i _ fun δ' S' i' => ih (k + 1) ?_ (by rw [List.length_cons] at hl; omega) δ' S' i'⟩
      have := congrArg List.tail e
      rw [List.tail_cons, List.tail_drop] at this
      exact this
  exact fun {δ S} i => go L 0 rfl (by omega) δ S i
theorem forGo_rng (lo : Int) (n : Nat) (I : Nat → DS → Store → Prop)
    (h : ∀ (i : Nat) δ S, i < n → I i δ S → ∀ nx : DS → Store → Prop, (∀ δ' S', I (i + 1) δ' S' → nx δ' S') → g (.int (lo + i)) δ S fun δ' S' => b { D with nx := nx, ct := nx, bk := D.nx } δ' S')
    (fin : ∀ δ S, I n δ S → D.nx δ S) {δ : DS} {S : Store} (i0 : I 0 δ S) : forGo (fun _ => True) g b D (rangeD lo n) δ S := by
  refine forGo_at (fun (i : Nat) => Dt.int (lo + i)) (List.range n) I (fun _ _ _ _ => trivial) (fun i x δ S e ii nx k => ?_) (fun δ S ii => fin δ S (by rw [List.length_range] at ii; exact ii)) i0
  have hi : i < n := by
    have := (List.getElem?_eq_some_iff.mp e).1
    rwa [List.length_range] at this
  rw [List.getElem?_range hi] at e
  cases e
  exact h i δ S hi ii nx k
end
theorem rangeD0 (n : Nat) : rangeD 0 n = (List.range n).map fun (i : Nat) => Dt.int i := by
  rw [show rangeD 0 n = (List.range n).map fun (i : Nat) => Dt.int (0 + i) from rfl]
  exact List.map_congr_left fun i _ => by rw [Int.zero_add]
end Dn

/-! dict comprehensions over deep values -/
namespace Dn
open PySem PySem.Spec PyProof.Rows L2 Pr LamX NdefX
section
variable {X : Cx} {K : PySem.W.Frag} {E : XK} {e : DX} {pos : Pos} {kx vx tg iter : Expr} {ifs : List Expr} {scope : Scope} {own : List (Str × Nat)} {it : DTL} {g : DTG} {tt : DTT} {tk tv : DTE}
end
end Dn

/-! sorted(d.items()) of texts by texts; dict of a tuple of pairs -/
namespace Pr
open PySem PySem.Spec PyProof.Rows L2 LamX NdefX
open PySem.W (EachIs AllAlike Sortable dataLe kdx_collect KdxG)
section
variable {X : Cx} {pins : List (Addr × Obj)} {σ : L2.St}
end
section
variable {X : Cx} {e : Expr} {te : TE} {p apos cpos pos : Pos}
end
end Pr

/-! tuples without attributes: written, tuple(list), dict(tuple of pairs); enumerate over a tuple -/
namespace Pr
open PySem PySem.Spec PyProof.Rows L2 LamX NdefX
section
variable {X : Cx} {e a : Expr} {es : List Expr} {te ta : TE} {t : TA} {pos p : Pos}
/-! dict(tuple of pairs) -/
end
end Pr
namespace Dn
open PySem PySem.Spec PyProof.Rows L2 Pr
section
variable {X : Cx} {K : PySem.W.Frag} {E : XK} {e : DX} {a : Expr} {es : List Expr} {ts : DTA} {da : DTE} {pos p : Pos}
end
end Dn

/-! enumerate over a tuple, range of three, sorted of dicts by ints, of their values, of items; list + list that will change -/
namespace Pr
open PySem PySem.Spec PyProof.Rows L2 LamX NdefX
/-! enumerate over a tuple -/
end Pr

/-! their rules over deep values -/
namespace Pr
open PySem PySem.Spec PyProof.Rows L2 LamX NdefX
section
variable {X : Cx} {e : Expr} {te : TE} {ta : TA} {p pos tpos apos cpos : Pos} {elts : List Expr} {kk : Nat}
end
end Pr
namespace Dn
open PySem PySem.Spec PyProof.Rows L2 Pr
section
variable {X : Cx} {K : PySem.W.Frag} {E : XK} {e : DX} {a b c ex : Expr} {es : List Expr} {ts : DTA} {da : DTE} {pos p tpos apos cpos : Pos} {elts : List Expr} {kk : Nat} {tg : Expr}
/-! range(i, j, -1) -/
/-! sorted of a dict with ints as keys -/
/-! sorted(d.values()) -/
/-! sorted(d.items()) of a dict text to text -/
theorem Good.kept {Z H H' : Hp} {S : Store} (g : Good K Z H S) (h : ∀ b o, H b = some o → H' b = some o) : Good K Z H' S ∧ Ext (out H S Z) (out H' S Z) := by
  have x : Ext (out H S Z) (out H' S Z) := Ext.of fun b o e => by
    obtain ⟨h1, h2, h3⟩ := out_some e
    rw [out_of h1 h2]
    exact h b o h3
  refine ⟨⟨fun b o e => ⟨h b o (g.z b o e).1, (g.z b o e).2⟩, fun a c e => ?_⟩, x⟩
  obtain ⟨o, h1, h2⟩ := g.c a c e
  exact ⟨o, h a o h1, CRep.ext x _ _ h2⟩
/-! list + list, to change -/
@[reducible] def rAddO : D2 := fun dx dy S q => seeL dx S fun a => seeL dy S fun b => a.length + b.length ≤ sizeLine ∧ ∀ p, S p = none → q (.ref p) (sput S p (.lst (a ++ b)))
theorem od_addO : OpR X (binaryOp .Add) (rD K rAddO) := fun pins s σ H x y v u Q I rv ru ⟨dx, dy, S, Z, q, g, rx, ry, h, k⟩ => by
  obtain ⟨a, xs, l, rfl, ha, ra, h⟩ := see_lst g rx h
  obtain ⟨b, ys, m, rfl, hb, rb, hl, h⟩ := see_lst g ry h
  exact op_cat pins s σ H _ _ v u Q I rv ru ⟨a, b, xs, ys, rfl, rfl, ha, hb, by rw [← ra.len, ← rb.len]; exact hl, fun p np => k.own g np (h p (g.nS np)) ⟨_, rfl, Reps.pair.mpr (Paired.app (Reps.pair.mp ra) (Reps.pair.mp rb))⟩⟩
/-! len of what stands still -/
end
end Dn
namespace Dn
open PySem PySem.Spec PyProof.Rows L2 Pr
/-- a promise that holds of nothing -/
theorem fn_no {P : Program} {w : World} {K : PySem.W.Frag} {mg : Str → Option Value} {base : Heap} {x qual : Str} {params : Arguments} {body : List Stmt} {scope : Scope} {dvs : List V} {f : Addr} {fd : FuncData} {N ps : List Str} {k : Nat}
    {c : DSp} {kws : List (Str × V)} (F : FunD K x qual params body scope dvs kws f fd) (S : FnScope N ps scope) (no : ∀ ds S q e, ¬ c ds S q e) : FnOk P w K mg base (L2.CX P w) (k + 1) f fd ps (spD K c) := by
  refine F.ok S (fun vs H Q E h => ?_) (fun cdv A outer s H vs Q E hr h => ?_)
  · obtain ⟨ds, S, Z, q, e, g, r, l, h, k⟩ := h
    exact absurd h (no _ _ _ _)
  · obtain ⟨ds, S', Z, q, e, g, r, l, h, kk⟩ := h
    exact absurd h (no _ _ _ _)
end Dn

/-! what is walked may be a list or a tuple -/
namespace Pr
open PySem PySem.Spec PyProof.Rows L2 LamX NdefX
end Pr
namespace Dn
open PySem PySem.Spec PyProof.Rows L2 Pr
section
variable {X : Cx} {K : PySem.W.Frag} {E : XK} {e : DX} {ex tg : Expr} {da : DTE}
end
end Dn

/-! instances compared; index of one; an item taken out; setdefault -/
namespace Pr
open PySem PySem.Spec PyProof.Rows L2 PySem.SeqAt
section
variable {prg : Program} {wo : World} {Ar : Around} {Er : Value → Shared → Prop} {s : Shared} {K : PySem.W.Frag} {x y C : Addr} {ox oy : Obj} {od oe : Option Obj}
end
section
variable {X : Cx}
end
end Pr

/-! list.remove of data -/
namespace Pr
open PySem PySem.Spec PyProof.Rows L2 PySem.SeqAt PySem.MeetsSeq
open MeetsSeq2 MeetsSeq3 SeqRoads2
section
variable {X : Cx}
end
end Pr

/-! their rules over deep values -/
namespace Dn
open PySem PySem.Spec PyProof.Rows L2 Pr
section
variable {X : Cx} {K : PySem.W.Frag} {E : XK} {e : DX} {apos cpos : Pos} {a b c : Expr} {da db dc : DTE}
end
end Dn

/-! comprehensions with two sources -/
namespace Dn
open PySem PySem.Spec PyProof.Rows L2 Pr
def dLc2 (it it1 : DTL) (g g1 : DTG) (w w1 : List Nat) (tt tt1 : DTT) (te : DTE) (q : List Dt → Store → Prop) : DS → Store → Prop := fun δ S => it δ S fun l keep S1 => ∃ I : Nat → List Dt → Store → Prop, I 0 [] S1 ∧ (∀ i acc S, i ≤ l.length → I i acc S → keep S) ∧
  (∀ i d acc S, l[i]? = some d → I i acc S → g d (wipesS δ w) S fun δ' S' => tt δ' S' fun b S2 => Ift b (it1 δ' S2 fun l1 keep1 S3 => ∃ J : Nat → List Dt → Store → Prop, J 0 acc S3 ∧ (∀ j acc S, j ≤ l1.length → J j acc S → keep1 S) ∧
    (∀ j d1 acc S, l1[j]? = some d1 → J j acc S → g1 d1 (wipesS δ' w1) S fun δ'' S4 => tt1 δ'' S4 fun b S5 => Ift b (te δ'' S5 fun y S6 => acc.length < sizeLine ∧ J (j + 1) (acc ++ [y]) S6) (J (j + 1) acc S5)) ∧ ∀ acc S, J l1.length acc S → I (i + 1) acc S) (I (i + 1) acc S2)) ∧
  ∀ acc S, I l.length acc S → q acc S
@[reducible] def dLcF2 (it it1 : DTL) (g g1 : DTG) (w w1 : List Nat) (tt tt1 : DTT) (te : DTE) : DTE := fun δ S q => dLc2 it it1 g g1 w w1 tt tt1 te (fun l S' => q (.lst l) S') δ S
section
variable {K : PySem.W.Frag} {E : XK} {e : DX}
theorem lc2_run {it it1 : DTL} {g gg : DTG} {tt tt1 : DTT} {te : DTE} {vs vs1 : List Nat} {qL : List Dt → Store → Prop} {σ : L2.St} {H : Hp} {Q : VK} {δ : DS} {S : Store} {Z : Hp}
    (t : At K E e Z H S σ δ) (h : dLc2 it it1 g gg vs vs1 tt tt1 te qL δ S)
    (fin : ∀ D accV acc H' S', Z D = none → Good K (upd Z D (.lst accV)) H' S' → Ext (out H S Z) (out H' S' (upd Z D (.lst accV))) → Reps K (out H' S' (upd Z D (.lst accV))) acc accV → qL acc S' → Q (.ref D) H') :
    tLc2 (tDI K E e it) (tGw K vs g) (tDT K E0 noX tt) (tDI K E0 noX it1) (tGw K vs1 gg) (tDT K E0 noX tt1) (tD K E0 noX te) vs vs1 σ H Q := by
  refine ⟨δ, S, Z, _, t, h, fun l keep H1 S1 J g1 x1 ok h1 => ?_⟩
  obtain ⟨I, h0, hk, hs, hd⟩ := h1
  intro D nD
  have nZ := g1.nZ nD
  have sl1 := t.sl.ext x1
  refine ⟨fun i m H => m = l.length - i ∧ i ≤ l.length ∧ ∃ S acc accV, Good K (upd Z D (.lst accV)) H S ∧ Ext (out H1 S1 Z) (out H S (upd Z D (.lst accV))) ∧ Reps K (out H S (upd Z D (.lst accV))) acc accV ∧ I i acc S,
    ⟨_, rfl, Nat.zero_le _, S1, [], [], g1.hide nD, by rw [hide_out g1 nD]; exact Ext.refl, rfl, h0⟩, fun i m H ⟨hm, hi, S2, acc, accV, g2, x2, r2, q2⟩ => ?_⟩
  by_cases en : i = l.length
  · subst en
    exact .inl ⟨ok.stop _ H S2 g2 x2 (hk _ acc S2 hi q2), fin D accV acc H S2 nZ g2 (x1.trans x2) r2 (hd acc S2 q2)⟩
  have hi2 : i < l.length := by omega
  refine .inr ⟨ok.go _ i H S2 g2 x2 (hk i acc S2 hi q2) hi2, fun H' => ∃ S acc accV, Good K (upd Z D (.lst accV)) H' S ∧ Ext (out H1 S1 Z) (out H' S (upd Z D (.lst accV))) ∧ Reps K (out H' S (upd Z D (.lst accV))) acc accV ∧ I (i + 1) acc S,
    fun H' z => ⟨l.length - (i + 1), by omega, rfl, by omega, z⟩, fun x H' y => ?_⟩
  obtain ⟨d, e1, g3, x3, r3⟩ := ok.yld _ i H S2 x H' g2 x2 (hk i acc S2 hi q2) hi2 y
  have x23 := x2.trans x3
  refine ⟨d, _, S2, _, _, g3, slots_wipes (sl1.ext x23) vs, r3, hs i d acc S2 e1 q2, fun σ' δ' H4 S4 w4 g4 x4 s4 h4 => ?_⟩
  refine ⟨by rw [w4, lc_run.wipe_wipe], δ', S4, _, _, ⟨g4, s4, lk_no⟩, h4, fun b H5 S5 g5 x5 h5 => ?_⟩
  have x45 := x4.trans x5
  cases b with
  | false => exact iteF ⟨S5, acc, accV, g5, x23.trans x45, Reps.ext (x3.trans x45) _ _ r2, h5⟩
  | true =>
    refine iteT ⟨δ', S5, _, _, ⟨g5, s4.ext x5, lk_no⟩, h5, fun l1 keep1 H6 S6 J1 g6 x6 ok1 h6 => ?_⟩
    have x46 := x45.trans x6
    obtain ⟨Ji, j0, jk, js, jd⟩ := h6
    have sl6 := s4.ext (x5.trans x6)
    have out6 : ∀ {H7 : Hp} {S7 : Store} {aV : List V}, Ext (out H6 S6 (upd Z D (.lst accV))) (out H7 S7 (upd Z D (.lst aV))) → Ext (out H1 S1 Z) (out H7 S7 (upd Z D (.lst aV))) := fun z => (x23.trans x46).trans z
    refine ⟨fun j k H => k = l1.length - j ∧ j ≤ l1.length ∧ ∃ S ac aV, Good K (upd Z D (.lst aV)) H S ∧ Ext (out H6 S6 (upd Z D (.lst accV))) (out H S (upd Z D (.lst aV))) ∧ Reps K (out H S (upd Z D (.lst aV))) ac aV ∧ Ji j ac S,
      ⟨_, rfl, Nat.zero_le _, S6, acc, accV, g6, Ext.refl, Reps.ext (x3.trans x46) _ _ r2, j0⟩, fun j k H ⟨hm1, hj, S7, ac, aV, g7, x7, r7, q7⟩ => ?_⟩
    by_cases en1 : j = l1.length
    · subst en1
      exact .inl ⟨ok1.stop _ H S7 g7 x7 (jk _ ac S7 hj q7), S7, ac, aV, g7, out6 x7, r7, jd ac S7 q7⟩
    have hj2 : j < l1.length := by omega
    refine .inr ⟨ok1.go _ j H S7 g7 x7 (jk j ac S7 hj q7) hj2, fun H' => ∃ S ac aV, Good K (upd Z D (.lst aV)) H' S ∧ Ext (out H6 S6 (upd Z D (.lst accV))) (out H' S (upd Z D (.lst aV))) ∧ Reps K (out H' S (upd Z D (.lst aV))) ac aV ∧ Ji (j + 1) ac S,
      fun H' z => ⟨l1.length - (j + 1), by omega, rfl, by omega, z⟩, fun x1' H8 y8 => ?_⟩
    obtain ⟨d1, e8, g8, x8, r8⟩ := ok1.yld _ j H S7 x1' H8 g7 x7 (jk j ac S7 hj q7) hj2 y8
    have x78 := x7.trans x8
    refine ⟨d1, _, S7, _, _, g8, slots_wipes (sl6.ext x78) vs1, r8, js j d1 ac S7 e8 q7, fun σ3 δ3 H9 S9 w9 g9 x9 s9 h9 => ?_⟩
    refine ⟨by rw [w9, lc_run.wipe_wipe], δ3, S9, _, _, ⟨g9, s9, lk_no⟩, h9, fun b H10 S10 g10 x10 h10 => ?_⟩
    have x910 := x9.trans x10
    cases b with
    | false => exact iteF ⟨S10, ac, aV, g10, x78.trans x910, Reps.ext (x8.trans x910) _ _ r7, h10⟩
    | true =>
      refine iteT ⟨δ3, S10, _, _, ⟨g10, s9.ext x10, lk_no⟩, h10, fun v z H11 S11 g11 x11 r11 h11 => ?_⟩
      have x911 := x910.trans x11
      have r12 := Reps.ext (x8.trans x911) _ _ r7
      obtain ⟨hl, h11⟩ := h11
      refine ⟨aV, g11.at, by rw [← r12.len]; exact hl, S11, ac ++ [z], aV ++ [v], g11.rehide, ?_, ?_, h11⟩
      · rw [rehide_out (o := .lst aV)]
        exact x78.trans x911
      · rw [rehide_out (o := .lst aV)]
        exact Reps.pair.mpr (Paired.app (Reps.pair.mp r12) (.cons r11 .nil))
theorem lc2_frozen {it it1 : DTL} {g gg : DTG} {tt tt1 : DTT} {te : DTE} {vs vs1 : List Nat} {σ : L2.St} {H : Hp} {Q : VK} (h : tD K E e (dLcF2 it it1 g gg vs vs1 tt tt1 te) σ H Q) :
    tLc2 (tDI K E e it) (tGw K vs g) (tDT K E0 noX tt) (tDI K E0 noX it1) (tGw K vs1 gg) (tDT K E0 noX tt1) (tD K E0 noX te) vs vs1 σ H Q := by
  obtain ⟨δ, S, Z, q, t, h, k⟩ := h
  refine lc2_run t h fun D accV acc H' S' nz g x r q' => ?_
  refine k _ (.lst acc) _ S' (g.bare nz) (x.trans (bare_ext g nz)) ⟨D, accV, rfl, ?_, Reps.ext (bare_ext g nz) _ _ r⟩ q'
  rw [out_of g.noS nz]
  exact g.at
end
section
variable {X : Cx} {K : PySem.W.Frag} {E : XK} {e : DX} {pos spos py : Pos} {elt tg iter tg1 iter1 : Expr} {ifs ifs1 : List Expr} {scope : Scope} {own : List (Str × Nat)} {it it1 : DTL} {g gg : DTG} {tt tt1 : DTT} {te : DTE} {vs1 : List Nat}
theorem ds_setLc2 {i : Nat} {y : Str} (calm : X.calm = true) (hN : X.N.Nodup) (hy : X.N[i]? = some y) (hyl : X.env.scope.names.lookup y = some .local) (hsw : swapsWith (.ListComp elt [⟨tg, iter, ifs, 0⟩, ⟨tg1, iter1, ifs1, 0⟩] scope pos) (some (.Name y py)) spos.line X.env = pure true)
    (hi : PI X tg iter (tDI K E e it)) (ok : BlkOk X.N X.env.scope scope own) (hv : ∀ i ∈ vs1, i ∈ snds own)
    (hg : ∀ (s : Shared) (H : Hp) (C : Addr) (cl : List (Str × Addr)) (fp : List Addr), PG (X.blk s H scope (compEnvC scope cl C X.env) fp) tg (tGw K (snds own) g))
    (ht : ∀ (s : Shared) (H : Hp) (C : Addr) (cl : List (Str × Addr)) (fp : List Addr), PTs (X.blk s H scope (compEnvC scope cl C X.env) fp) ifs (tDT K E0 noX tt))
    (hi1 : ∀ (s : Shared) (H : Hp) (C : Addr) (cl : List (Str × Addr)) (fp : List Addr), PI (X.blk s H scope (compEnvC scope cl C X.env) fp) tg1 iter1 (tDI K E0 noX it1))
    (hg1 : ∀ (s : Shared) (H : Hp) (C : Addr) (cl : List (Str × Addr)) (fp : List Addr), PG (X.blk s H scope (compEnvC scope cl C X.env) fp) tg1 (tGw K vs1 gg))
    (ht1 : ∀ (s : Shared) (H : Hp) (C : Addr) (cl : List (Str × Addr)) (fp : List Addr), PTs (X.blk s H scope (compEnvC scope cl C X.env) fp) ifs1 (tDT K E0 noX tt1))
    (he : ∀ (s : Shared) (H : Hp) (C : Addr) (cl : List (Str × Addr)) (fp : List Addr), PE (X.blk s H scope (compEnvC scope cl C X.env) fp) elt (tD K E0 noX te)) (hs : ∀ x, foldedSetIterable iter X.env x = pure x := by intro _; rfl) (hs1 : ∀ env x, foldedSetIterable iter1 env x = pure x := by intro _ _; rfl) :
    PS X (.Assign [.Name y py] (.ListComp elt [⟨tg, iter, ifs, 0⟩, ⟨tg1, iter1, ifs1, 0⟩] scope pos) spos) (tDS K E e (dAsg (dLcF2 it it1 g gg (snds own) vs1 tt tt1 te) (dName i))) := by
  rw [snds_eq] at hg hv ⊢
  exact PS.imp (ps_setLc2 calm hN hy hyl hsw hi ok hv hg ht hi1 hg1 ht1 he hs hs1) fun D σ H h => by
    obtain ⟨δ, S, Z, DD, t, h, k⟩ := h
    exact lc2_frozen ⟨δ, S, Z, _, t, h, fun v x H1 S1 g1 x1 r1 h1 => k.nx _ _ _ _ g1 x1 ((t.sl.ext x1).put r1) h1⟩
end
end Dn

/-! a lambda with parameters that is handed to a def and called there -/
namespace Pr
open PySem PySem.Spec PyProof.Rows L2 LamX NdefX
section
variable {P : Program} {w : World} {K : PySem.W.Frag} {mg : Str → Option Value} {base : Heap} {k j : Nat} {f : Addr} {F : NF} {b : Expr} {ps fr N : List Str} {sp : List V → List (Option V) → Hp → VK → XK → Prop}
end
end Pr

/-! the same over deep values; what is captured is a thing at an address -/
namespace Dn
open PySem PySem.Spec PyProof.Rows L2 Pr LamX NdefX
section
variable {P : Program} {w : World} {K : PySem.W.Frag} {mg : Str → Option Value} {base : Heap} {k j : Nat} {f : Addr} {F : NF} {b : Expr} {ps fr : List Str}
end
section
variable {X : Cx} {K : PySem.W.Frag} {E : XK} {e : DX}
end
section
variable {P : Program} {w : World} {K : PySem.W.Frag} {mg : Str → Option Value} {base : Heap} {k : Nat} {x qual : Str} {params : Arguments} {body : List Stmt} {scope : Scope} {dvs : List V} {kws : List (Str × V)} {f : Addr} {fd : FuncData} {N ps fr : List Str}
end
section
variable {X : Cx} {K : PySem.W.Frag} {E : XK} {e : DX}
end
end Dn

/-! isinstance of an own class; frames; while and for by invariants -/
namespace Dn
open PySem PySem.Spec PyProof.Rows L2 Pr
section
variable {X : Cx} {K : PySem.W.Frag}
end
/-! ## l[::-1] -/
@[reducible] def dRev (a : DTE) : DTE := fun δ S q => a δ S fun x S1 => seeL x S1 fun l => q (.lst l.reverse) S1
section
variable {X : Cx} {K : PySem.W.Frag} {E : XK} {e : DX} {a : Expr} {da : DTE} {k : Nat} {p1 p2 p3 pos : Pos}
theorem de_rev (hK : X.K = K) (ha : PE X a (tD K E e da)) : PE X (.Subscript a (.Slice none none (some (.UnaryOp .USub (.Constant (.int 1) k p1) p2)) p3) pos) (tD K E e (dRev da)) := by
  subst hK
  refine PE.imp (pe_revL ha) fun σ H Q h => ?_
  obtain ⟨δ, S, Z, q, t, h, k⟩ := h
  refine ⟨δ, S, Z, _, t, h, fun v x H1 S1 g1 x1 r1 h1 => ?_⟩
  obtain ⟨a, vs, l, rfl, h2, h3, h4⟩ := see_lst g1 r1 h1
  exact ⟨a, vs, rfl, SqL.of h2, fun p np => (k.ext x1).new g1 np h4 ⟨p, _, rfl, out_new g1 np, Reps.pair.mpr (Paired.rev (Reps.pair.mp (Reps.ext (ext_new g1 np) _ _ h3)))⟩⟩
end
/-! ## l += ys, a list of one's own -/
/-! ## what stands still -/
def Hold (bad : List Addr) (S S' : Store) : Prop := ∀ b ∈ bad, ∀ c, S b = some c → S' b = some c
theorem Hold.refl {bad : List Addr} {S : Store} : Hold bad S S := fun _ _ _ h => h
theorem Hold.trans {bad : List Addr} {S T U : Store} (h : Hold bad S T) (k : Hold bad T U) : Hold bad S U := fun b hb c e => k b hb c (h b hb c e)
theorem Hold.put {bad : List Addr} {S S' : Store} {p : Addr} {c : Cell} (h : Hold bad S S') (hp : p ∉ bad) : Hold bad S (sput S' p c) := fun b hb d e => by
  have n : b ≠ p := fun z => hp (z ▸ hb)
  rw [sput_ne n]
  exact h b hb d e
theorem Hold.new {bad : List Addr} {S S' : Store} {p : Addr} {c : Cell} (h : Hold bad S S') (hp : S p = none) : Hold bad S (sput S' p c) := fun b hb d e => by
  by_cases z : b = p
  · rw [z, hp] at e; cases e
  · rw [sput_ne z]; exact h b hb d e
theorem Hold.sub {bad bad' : List Addr} {S S' : Store} (h : Hold bad S S') (hs : ∀ b ∈ bad', b ∈ bad) : Hold bad' S S' := fun b hb c e => h b (hs b hb) c e
def Le (S S' : Store) : Prop := ∀ a c, S a = some c → S' a = some c
theorem Le.refl {S : Store} : Le S S := fun _ _ h => h
theorem Le.trans {S T U : Store} (h : Le S T) (k : Le T U) : Le S U := fun a c e => k a c (h a c e)
theorem Le.put {S S' : Store} {p : Addr} {c : Cell} (h : Le S S') (hp : S p = none) : Le S (sput S' p c) := fun a d e => by
  by_cases z : a = p
  · rw [z, hp] at e; cases e
  · rw [sput_ne z]; exact h a d e
theorem Le.hold {S S' : Store} (h : Le S S') (bad : List Addr) : Hold bad S S' := fun b _ c e => h b c e
theorem lc_at {α : Type} {keep : Store → Prop} {g : DTG} {tt : DTT} {te : DTE} {q : List Dt → Store → Prop} {δ : DS} (enc : α → Dt) (L : List α) (I : Nat → List Dt → Store → Prop) (hk : ∀ i acc S, I i acc S → keep S)
    (h : ∀ i x acc S, L[i]? = some x → I i acc S → ∀ (kY : Dt → Store → Prop) (kN : Store → Prop), (∀ y S', I (i + 1) (acc ++ [y]) S' → kY y S') → (∀ S', I (i + 1) acc S' → kN S') → g (enc x) δ S fun δ' S' => tt δ' S' fun b S2 => Ift b (te δ' S2 kY) (kN S2))
    (fin : ∀ acc S, I L.length acc S → q acc S) {S : Store} (h0 : I 0 [] S) : lcGo keep g tt te q δ (L.map enc) [] S := by
  have go : ∀ (M : List α) (k : Nat), M = L.drop k → k + M.length = L.length → ∀ acc S, I k acc S → lcGo keep g tt te q δ (M.map enc) acc S := by
    intro M
    induction M with
    | nil => exact fun k e hl acc S i => ⟨hk _ _ _ i, fin acc S (by rw [← hl]; exact i)⟩
    | cons x M ih =>
      intro k e hl acc S i
      have ex : L[k]? = some x := by
        have := congrArg (fun l => l[0]?) e
        rw [List.getElem?_drop] at this
        simpa using this.symm
      have e2 : M = L.drop (k + 1) := by
        have := congrArg List.tail e
        rw [List.tail_cons, List.tail_drop] at this
        exact this
      have hl2 : k + 1 + M.length = L.length := by rw [List.length_cons] at hl; omega
      exact ⟨hk _ _ _ i, h k x acc S ex i _ _ (fun y S' i' => ih (k + 1) e2 hl2 _ S' i') fun S' i' => ih (k + 1) e2 hl2 _ S' i'⟩
  exact go L 0 rfl (by omega) [] S h0
theorem size6 {n : Nat} (h : n ≤ 1000001) : n < sizeLine := Nat.lt_of_le_of_lt h (by rw [sizeLine_eq]; decide)
end Dn

/-! zip of two lists -/
namespace Dn
open PySem PySem.Spec PyProof.Rows L2 Pr
section
variable {X : Cx} {K : PySem.W.Frag} {E : XK} {e : DX} {a b : Expr} {ts : DTA} {pos p tpos : Pos} {elts : List Expr} {kk : Nat}
end
end Dn

/-! texts: find from a place, strip of signs, upper, lower; a part of a list as a list of one's own -/
namespace Dn
open PySem PySem.Spec PyProof.Rows L2 Pr
theorem SOk.stripChars {a : Str} (h : SOk a) (b : Str) : SOk (Txt.stripChars a b) := by
  unfold Txt.stripChars Txt.stripBy
  split
  · exact h
  · exact h.strSub _ _
@[reducible] def rmFind2 : DMr := fun x ds S q => match x, ds with
  | .str a, [.str b, .int i] => q (.int (Txt.find3 a b i)) S
  | _, _ => False
@[reducible] def rmStrip1 : DMr := fun x ds S q => match x, ds with
  | .str a, [.str b] => q (.str (Txt.stripChars a b)) S
  | _, _ => False
@[reducible] def rmUpper : DMr := fun x ds S q => match x, ds with
  | .str a, [] => (a.length ≤ 5592405 ∧ SOk (Txt.upper a)) ∧ q (.str (Txt.upper a)) S
  | _, _ => False
@[reducible] def rmLower : DMr := fun x ds S q => match x, ds with
  | .str a, [] => (a.length ≤ 5592405 ∧ SOk (Txt.lower a)) ∧ q (.str (Txt.lower a)) S
  | _, _ => False
@[reducible] def rcMaxL : DCr := fun xs S q => match xs with
  | [x] => seeL x S fun l => ∃ ks : List Int, l = ks.map Dt.int ∧ 0 < ks.length ∧ ∀ m, m ∈ ks → (∀ y, y ∈ ks → y ≤ m) → q (.int m) S
  | _ => False
@[reducible] def rSlO (x : Dt) (lo hi : Option Int) (S : Store) (q : DK) : Prop := seeL x S fun l => ∀ p, S p = none → q (.ref p) (sput S p (.lst (cutD l lo hi)))
@[reducible] def dSlO (a : DTE) (lo hi : DTO) : DTE := fun δ S q => a δ S fun x S1 => lo δ S1 fun l S2 => hi δ S2 fun h S3 => rSlO x l h S3 q
def rDSO (K : PySem.W.Frag) (x : V) (lo hi : Option Int) (H : Hp) (Q : VK) : Prop := ∃ d S Z q, Good K Z H S ∧ Rep K (out H S Z) d x ∧ rSlO d lo hi S q ∧ Ty K Z H S q Q
section
variable {X : Cx} {K : PySem.W.Frag} {E : XK} {e : DX}
theorem md_find2 : MtR X "str.find" (rDM K rmFind2) := fun pins s σ H x xs v us Q I rx r ⟨d, ds, S, Z, q, g, rd, rs, h, k⟩ => by
  match d, ds, h with
  | .str a, [.str b, .int i], h =>
    obtain ⟨w, u, rfl, rw', ru⟩ := reps2 rs
    exact mt_find3 pins s σ H x _ v us Q I rx r ⟨a, b, i, rd.1, by rw [rw'.1, show u = _ from ru], k.here g h rfl⟩
theorem md_strip1 : MtR X "str.strip" (rDM K rmStrip1) := fun pins s σ H x xs v us Q I rx r ⟨d, ds, S, Z, q, g, rd, rs, h, k⟩ => by
  match d, ds, h with
  | .str a, [.str b], h =>
    obtain ⟨w, rfl, rw'⟩ := reps1 rs
    exact mt_stripChars pins s σ H x _ v us Q I rx r ⟨a, b, rd.1, by rw [rw'.1], rd.2.len, k.here g h ⟨rfl, SOk.stripChars rd.2 b⟩⟩
theorem md_upper : MtR X "str.upper" (rDM K rmUpper) := fun pins s σ H x xs v us Q I rx r ⟨d, ds, S, Z, q, g, rd, rs, h, k⟩ => by
  match d, ds, h with
  | .str a, [], h => exact mt_upper pins s σ H x _ v us Q I rx r ⟨a, rd.1, rs, h.1.1, k.here g h.2 ⟨rfl, h.1.2⟩⟩
theorem md_lower : MtR X "str.lower" (rDM K rmLower) := fun pins s σ H x xs v us Q I rx r ⟨d, ds, S, Z, q, g, rd, rs, h, k⟩ => by
  match d, ds, h with
  | .str a, [], h => exact mt_lower pins s σ H x _ v us Q I rx r ⟨a, rd.1, rs, h.1.1, k.here g h.2 ⟨rfl, h.1.2⟩⟩
theorem cd_maxL (hK : X.K = K) (hc : X.calm = true) : CallR X (.builtin "max") (rDC K rcMaxL) := fun pins s σ H xs us Q I r ⟨ds, S, Z, q, g, rs, h, k⟩ => by
  subst hK
  obtain ⟨x, rfl, h⟩ := one_arg h
  obtain ⟨v, rfl, rv⟩ := reps1 rs
  obtain ⟨a, vs, l, rfl, h1, h2, ks, rfl, h3, h4⟩ := see_lst g rv h
  obtain rfl := ints_rep h2
  exact cr_max hc pins s σ H _ us Q I r ⟨a, ks, rfl, SqL.of h1, h3, fun m hm hy => k.here g (h4 m hm hy) rfl⟩
theorem sl_DO (hK : X.K = K) : SlR X (rDSO K) := by
  subst hK
  intro pins s σ H x v vl vu lo hi sl Q I rv is pl ph h
  obtain ⟨d, S, Z, q, g, r, h, k⟩ := h
  obtain ⟨p, vs, l, rfl, hp, hl, hq⟩ := see_lst g r h
  exact sl_list pins s σ H _ v vl vu lo hi sl Q I rv is pl ph ⟨p, vs, rfl, SqL.of hp, fun p np => k.own g np (hq p (g.nS np)) ⟨_, rfl, cutV_pair hl⟩⟩
theorem de_slO {a : Expr} {lo hi : Option Expr} {p2 pos : Pos} {da : DTE} {dl dh : DTO} (hK : X.K = K) (ha : PE X a (tD K E e da)) (hl : PO X lo (tDO K E e dl)) (hh : PO X hi (tDO K E e dh)) : PE X (.Subscript a (.Slice lo hi none p2) pos) (tD K E e (dSlO da dl dh)) := PE.imp (pe_slice (sl_DO hK) ha hl hh) fun σ H Q h => by
  obtain ⟨δ, S, Z, q, t, h, k⟩ := h
  exact ⟨δ, S, Z, _, t, h, fun v x H1 S1 g1 x1 r1 h1 => ⟨δ, S1, Z, _, t.to g1 x1, h1, fun i H2 S2 g2 x2 h2 => ⟨δ, S2, Z, _, t.to g2 (x1.trans x2), h2, fun j H3 S3 g3 x3 h3 => ⟨x, S3, Z, q, g3, Rep.ext (x2.trans x3) _ _ r1, h3, k.ext (x1.trans (x2.trans x3))⟩⟩⟩⟩
end
end Dn

/-! raise X(a message that is worked out) -/
namespace Pr
open PySem PySem.Spec PyProof.Rows L2
theorem pmk_ownE {X : Cx} {C : Addr} {bmB : List Value} {B newId initId : String} {x : Str} {p pos : Pos} {em : Expr} {te : TE} (F : ExcBaseFacts B newId initId bmB) (q : PySem.W.excIn X.K C bmB newId = true) (gC : X.mg x = some (.ref C)) (kC : PySem.W.keepIn X.K (.ref C) = true) (r : Raises X (.ref C)) (hg : Gl X x)
    (he : PE X em te) (hdb : (x == ("__debug__" : Str)) = false := by decide) (hs : starEach [em] X.env = (false, eval em X.env) :: starEach [] X.env := by rfl) : PMk X (.Call (.Name x p) [em] [] pos) (fun σ H Q => te σ H fun _ H1 => Q (.ref C) none H1) := by
  intro pins s σ H Q I h
  refine wpAny_Call_Name_kw (ld_glob I hg gC ?_ hdb)
  have ha : PA X [em] (tCons te tNil) := pa_cons he pa_nil hs
  refine PySem.W.callWith_K (h₀ := X.base) I.ok.mod.kin kC (thn (ha.run pos pins s σ H (fun vs H1 => match vs with | [_] => Q (.ref C) none H1 | _ => False) I h) fun us s1 hh => ?_) hs
  obtain ⟨vs, H1, I1, r1, hh⟩ := hh
  refine ⟨I1.kIn, ?_⟩
  match vs, hh with
  | [v], hh =>
    cases r1 with
    | cons ru rn =>
      rename_i u us'
      cases rn
      show wpAny _ _ (call (.ref C) [u]) _ _ _
      obtain ⟨bm, N, nm, qn, bs, hdct, sn, sub, ab, col, dd, k0, k1, k2, k3, k5, mN, hC, hN, hni, T⟩ := exc_obj I1.kIn q
      refine wpAny_call_exc_subT F T hC hN hni (fun h' e hm => ?_) (by show 1 ≤ sizeLine; rw [sizeLine_eq]; omega)
      exact mk_of I1 hm r hh (I1.hok.gone hm.new)
end Pr
namespace Dn
open PySem PySem.Spec PyProof.Rows L2 Pr
@[reducible] def dRaiseE (a : DTE) (e : DX) (C : Addr) : DTS := fun _ δ S => a δ S fun _ S1 => e C S1
section
variable {P : Program} {w : World} {K : PySem.W.Frag} {mg : Str → Option Value} {base : Heap} {N : List Str} {qual : Str} {scope : Scope} {f : Addr} {cd : Value} {A : Around} {outer : List Env} {s : Shared} {H : Hp} {E : XK} {e : DX} {em : Expr} {pos : Pos} {C : Addr} {da : DTE}
theorem dr_raiseE {B newId initId bmB} {x : Str} {p pos2 : Pos} (F : ExcBaseFacts B newId initId bmB) (q : PySem.W.excIn K C bmB newId = true) (gC : mg x = some (.ref C)) (kC : PySem.W.keepIn K (.ref C) = true)
    (r : Raises (cxOf (L2.CX P w) P w K mg base N qual scope f cd A outer s H E) (.ref C)) (hg : Gl (cxOf (L2.CX P w) P w K mg base N qual scope f cd A outer s H E) x) (he : PE (cxOf (L2.CX P w) P w K mg base N qual scope f cd A outer s H E) em (tD K E e da)) (hdb : (x == ("__debug__" : Str)) = false := by decide)
    (hs : starEach [em] (cxOf (L2.CX P w) P w K mg base N qual scope f cd A outer s H E).env = (false, eval em (cxOf (L2.CX P w) P w K mg base N qual scope f cd A outer s H E).env) :: starEach [] (cxOf (L2.CX P w) P w K mg base N qual scope f cd A outer s H E).env := by rfl) :
    PS (cxOf (L2.CX P w) P w K mg base N qual scope f cd A outer s H E) (.Raise (some (.Call (.Name x p) [em] [] pos2)) none pos) (tDS K E e (dRaiseE da e C)) :=
  PS.imp (ps_raise (W := fun cls d _ H => E cls d H) rfl tkX (pmk_ownE F q gC kC r hg he hdb hs)) fun D σ H h => by
    obtain ⟨δ, S, Z, DD, t, h, k⟩ := h
    exact ⟨δ, S, Z, _, t, h, fun v x H1 S1 g1 x1 r1 h1 => t.lk C H1 S1 g1 x1 h1⟩
end
end Dn

/-! zip of three lists in the store -/
namespace Pr
open PySem PySem.Spec PyProof.Rows L2 LamX NdefX
/-- the lists at a, b and c as they stand at each turn, the items in new triples -/
def Itz3 (K : PySem.W.Frag) (a b c : Addr) : It :=
  ⟨fun i H => ∃ (xs ys us : List V) (x y u : V), SqL K H a xs ∧ SqL K H b ys ∧ SqL K H c us ∧ xs[i]? = some x ∧ ys[i]? = some y ∧ us[i]? = some u,
    fun i H v H' => ∃ T x y u, v = .ref T ∧ H T = none ∧ H' = upd H T (.tup [x, y, u]) ∧ (∀ xs, SqL K H a xs → xs[i]? = some x) ∧ (∀ ys, SqL K H b ys → ys[i]? = some y) ∧ ∀ us, SqL K H c us → us[i]? = some u,
    fun i H => ∃ xs ys us : List V, SqL K H a xs ∧ SqL K H b ys ∧ SqL K H c us ∧ i ≤ xs.length ∧ i ≤ ys.length ∧ i ≤ us.length ∧ (i = xs.length ∨ i = ys.length ∨ i = us.length)⟩
theorem nin2 {x a b : Nat} (h1 : x ≠ a) (h2 : x ≠ b) : (x : Addr) ∉ ([a, b] : List Addr) := fun h => by
  rcases List.mem_cons.mp h with h | h
  · exact h1 h
  · exact h2 (List.mem_singleton.mp h)
theorem sep3 {n a b c : Nat} (ha : a < n) (hb : b < n) (hc : c < n) : ZipSep3 (n + 5) (n + 3) (n + 4) n (n + 1) (n + 2) [n, a] [n + 1, b] [n + 2, c] := by
  have k : ∀ {x y : Nat}, x ≠ y → (x : Addr) ≠ y := fun h => h
  constructor <;> first | exact List.mem_cons_self .. | exact nin2 (by omega) (by omega) | exact k (by omega)
theorem turn_zip3 {P : Program} {w : World} {K : PySem.W.Frag} {elts : List Expr} {kk : Nat} {tpos : Pos} {a b c z TI TO i1 i2 i3 : Addr} (D : ZipSep3 z TI TO i1 i2 i3 [i1, a] [i2, b] [i3, c]) (ha : a ≠ i1) (hb : b ≠ i2) (hc' : c ≠ i3) :
    Turn P w K (.Tuple elts kk tpos) (Itz3 K a b c) [z, TI, TO, i1, i2, i3] z (fun i h => IsZip h z TI TO .none ∧ IsTupOf3 h TI (.ref i1) (.ref i2) (.ref i3) ∧ (∃ x y u, IsTupOf3 h TO x y u) ∧ h.IsListIter i1 a i ∧ h.IsListIter i2 b i ∧ h.IsListIter i3 c i) where
  mem := by simp
  obj := fun i h st q hq => by
    obtain ⟨hz, hTI, ⟨x, y, u, hTO⟩, ⟨o1, e1, _, d1⟩, ⟨o2, e2, _, d2⟩, ⟨o3, e3, _, d3⟩⟩ := st
    have e' : q = z ∨ q = TI ∨ q = TO ∨ q = i1 ∨ q = i2 ∨ q = i3 := by simpa using hq
    rcases e' with q | q | q | q | q | q
    · rw [q]; exact ⟨_, hz, fun v q => nomatch q⟩
    · rw [q]; exact ⟨_, hTI, fun v q => nomatch q⟩
    · rw [q]; exact ⟨_, hTO, fun v q => nomatch q⟩
    · rw [q]; exact ⟨o1, e1, fun v q => by rw [d1] at q; cases q⟩
    · rw [q]; exact ⟨o2, e2, fun v q => by rw [d2] at q; cases q⟩
    · rw [q]; exact ⟨o3, e3, fun v q => by rw [d3] at q; cases q⟩
  keep := fun i h h' st k => by
    obtain ⟨hz, hTI, ⟨x, y, u, hTO⟩, h1, h2, h3⟩ := st
    exact ⟨k z (by simp) _ hz, k TI (by simp) _ hTI, ⟨x, y, u, k TO (by simp) _ hTO⟩, h1.at fun o q => k i1 (by simp) o q, h2.at fun o q => k i2 (by simp) o q, h3.at fun o q => k i3 (by simp) o q⟩
  item := by
    intro X hP hw hK hc i pins s σ H E I hf st hg
    subst hP hw hK
    obtain ⟨hz, hTI, ⟨x0, y0, u0, hTO⟩, h1, h2, h3⟩ := st
    obtain ⟨xs, ys, us, x, y, u, hqx, hqy, hqu, hx, hy, hu⟩ := hg
    obtain ⟨its, rv, p, _⟩ := I.list hqx
    obtain ⟨its2, rv2, p2, _⟩ := I.list hqy
    obtain ⟨its3, rv3, p3, _⟩ := I.list hqu
    obtain ⟨v, hv, ru⟩ := rv.get hx
    obtain ⟨v2, hv2, ru2⟩ := rv2.get hy
    obtain ⟨v3, hv3, ru3⟩ := rv3.get hu
    have hzl : z < s.heap.objs.size := Heap.lt_size hz
    have hI := I.ok.hd hc
    have D1 := Draws.list (prog := X.prog) (w := X.w) (A := X.A.in1) hI i1 a ha its.toArray
    have D2 := Draws.list (prog := X.prog) (w := X.w) (A := X.A.in1) hI i2 b hb its2.toArray
    have D3 := Draws.list (prog := X.prog) (w := X.w) (A := X.A.in1) hI i3 c hc' its3.toArray
    have l1 : i < its.toArray.size := by rw [List.size_toArray]; exact (List.getElem?_eq_some_iff.mp hv).1
    have l2 : i < its2.toArray.size := by rw [List.size_toArray]; exact (List.getElem?_eq_some_iff.mp hv2).1
    have l3 : i < its3.toArray.size := by rw [List.size_toArray]; exact (List.getElem?_eq_some_iff.mp hv3).1
    refine wpAny_pyNext_zipD3_item D D1 D2 D3 hz hTI hTO ⟨h1, p.isList⟩ ⟨h2, p2.isList⟩ ⟨h3, p3.isList⟩ l1 l2 l3 fun w1 w2 w3 h' tk q1 q2 q3 z' TO' h1' h2' h3' hT hsz hk => ?_
    obtain rfl : v = w1 := by rw [List.getElem?_toArray, hv] at q1; exact Option.some.inj q1
    obtain rfl : v2 = w2 := by rw [List.getElem?_toArray, hv2] at q2; exact Option.some.inj q2
    obtain rfl : v3 = w3 := by rw [List.getElem?_toArray, hv3] at q3; exact Option.some.inj q3
    refine ⟨_, rfl, wpAny_letOwnedTupleGo_zip (s := { s with heap := h', toks := tk }) z' fun h'' z'' sb => ?_⟩
    have hT2 : h''.get? s.heap.objs.size = some { cls := .type "tuple", data := .seq #[v, v2, v3] } := (sb.2 _ (Nat.ne_of_gt hzl)).trans hT
    have new : ObjOk X.prog X.w (upd H s.heap.objs.size (.tup [x, y, u])) h'' s.heap.objs.size (.tup [x, y, u]) :=
      ⟨by show 3 ≤ sizeLine; decide, [v, v2, v3], .cons ru (.cons ru2 (.cons ru3 .nil)), ⟨_, hT2, rfl, _, rfl⟩⟩
    have I1 : Inv X pins σ (upd H s.heap.objs.size (.tup [x, y, u])) { s with heap := h'', toks := tk } :=
      I.turnedNew (t' := tk) (ch := [z, TI, TO, i1, i2, i3]) (fun c o hb q => (sb.2 c (fun q' => hb (by simp [q']))).trans (hk c o (fun q' => hb (by simp [q'])) (fun q' => hb (by simp [q'])) (fun q' => hb (by simp [q'])) (fun q' => hb (by simp [q'])) (fun q' => hb (by simp [q'])) q)) hf (Nat.le_refl _) new
    refine ⟨.ref s.heap.objs.size, _, I1, rfl, ⟨_, x, y, u, rfl, I.hok.fresh (Nat.le_refl _), rfl, fun l hl => by rw [I.list_inj hl hqx]; exact hx, fun l hl => by rw [I.list_inj hl hqy]; exact hy, fun l hl => by rw [I.list_inj hl hqu]; exact hu⟩, ⟨z'', ?_, ⟨v, v2, v3, ?_⟩, ?_, ?_, ?_⟩, fun c hcm => ?_⟩
    · exact (sb.2 _ D.TIz).trans (hk _ _ D.TIz D.TITO D.TIi1 D.TIi2 D.TIi3 hTI)
    · exact (sb.2 _ D.TOz).trans TO'
    · exact h1'.1.at fun o q => (sb.2 _ D.zi1.symm).trans q
    · exact h2'.1.at fun o q => (sb.2 _ D.zi2.symm).trans q
    · exact h3'.1.at fun o q => (sb.2 _ D.zi3.symm).trans q
    · have hlt : c < s.heap.objs.size := by
        have e' : c = z ∨ c = TI ∨ c = TO ∨ c = i1 ∨ c = i2 ∨ c = i3 := by simpa using hcm
        rcases e' with q | q | q | q | q | q
        · rw [q]; exact hzl
        · rw [q]; exact Heap.lt_size hTI
        · rw [q]; exact Heap.lt_size hTO
        · rw [q]; obtain ⟨_, e1, _⟩ := h1; exact Heap.lt_size e1
        · rw [q]; obtain ⟨_, e2, _⟩ := h2; exact Heap.lt_size e2
        · rw [q]; obtain ⟨_, e3, _⟩ := h3; exact Heap.lt_size e3
      rw [upd_ne (Nat.ne_of_lt hlt)]
      exact (hf c hcm).1
  done := by
    intro X hP hw hK hc i pins s σ H E I hf st hg
    subst hP hw hK
    obtain ⟨hz, hTI, ⟨x0, y0, u0, hTO⟩, h1, h2, h3⟩ := st
    obtain ⟨xs, ys, us, hqx, hqy, hqu, g1, g2, g3, hend⟩ := hg
    obtain ⟨its, rv, p, _⟩ := I.list hqx
    obtain ⟨its2, rv2, p2, _⟩ := I.list hqy
    obtain ⟨its3, rv3, p3, _⟩ := I.list hqu
    have hI := I.ok.hd hc
    have D1 := Draws.list (prog := X.prog) (w := X.w) (A := X.A.in1) hI i1 a ha its.toArray
    have D2 := Draws.list (prog := X.prog) (w := X.w) (A := X.A.in1) hI i2 b hb its2.toArray
    have D3 := Draws.list (prog := X.prog) (w := X.w) (A := X.A.in1) hI i3 c hc' its3.toArray
    have l1 := rv.length
    have l2 := rv2.length
    have l3 := rv3.length
    have e1 : its.toArray.size = xs.length := by rw [List.size_toArray]; omega
    have e2 : its2.toArray.size = ys.length := by rw [List.size_toArray]; omega
    have e3 : its3.toArray.size = us.length := by rw [List.size_toArray]; omega
    exact wpAny_pyNext_zipD3_end D D1 D2 D3 hz hTI hTO ⟨h1, p.isList⟩ ⟨h2, p2.isList⟩ ⟨h3, p3.isList⟩ (by omega) (by omega) (by omega) (by omega) fun h' tk hk => ⟨rfl, I.turnedL (t' := tk) (ch := [z, TI, TO, i1, i2, i3]) (fun c o hb q =>
      hk c o (fun q' => hb (by simp [q'])) (fun q' => hb (by simp [q'])) (fun q' => hb (by simp [q'])) (fun q' => hb (by simp [q'])) (fun q' => hb (by simp [q'])) q) hf⟩
  self := fun A i s Q E st h => wpAny_pyIter_zip st.1 h
def iZip3 (K : PySem.W.Frag) (ta : TA) : TI := fun σ H R => ta σ H fun vs H1 => ∃ a b c xs ys us, vs = [.ref a, .ref b, .ref c] ∧ SqL K H1 a xs ∧ SqL K H1 b ys ∧ SqL K H1 c us ∧ R (Itz3 K a b c) H1
theorem pi_zip3 {X : Cx} {e e2 e3 : Expr} {ta : TA} {p pos tpos : Pos} {elts : List Expr} {kk : Nat} (hg : Gl X "zip") (hm : X.mg "zip" = none) (ha : PA X [e, e2, e3] ta)
    (hs : starEach [e, e2, e3] X.env = (false, eval e X.env) :: starEach [e2, e3] X.env := by rfl) (hpl : (backTo pos (starEach [e2, e3] X.env)).any (·.1) = false := by rfl) :
    PI X (.Tuple elts kk tpos) (.Call (.Name "zip" p) [e, e2, e3] [] pos) (iZip3 X.K ta) := by
  refine ⟨fun pins s σ H R I h => ?_⟩
  refine Call_ (ld_blt I hg hm PyProof.Rows.boot_zip (PyProof.Rows.callWith_type1 (thn (ha.run pos pins s σ H _ I h) fun us s1 ⟨vs, H1, I1, r1, q1⟩ => ?_) hs hpl))
  obtain ⟨a, b, c, xs, ys, us', ex, hqx, hqy, hqu, q⟩ := q1
  subst ex
  cases r1 with
  | cons r rr =>
    cases rr with
    | cons r' rr =>
      cases rr with
      | cons r'' rr =>
        cases rr
        cases r
        cases r'
        cases r''
        obtain ⟨its, rv, p1, _⟩ := I1.list hqx
        obtain ⟨its2, rv2, p2, _⟩ := I1.list hqy
        obtain ⟨its3, rv3, p3, _⟩ := I1.list hqu
        have la : a < s1.heap.objs.size := p1.lt
        have lb : b < s1.heap.objs.size := p2.lt
        have lc : c < s1.heap.objs.size := p3.lt
        refine zip_begins3 (begins_list a its.toArray) (begins_list b its2.toArray) (begins_list c its3.toArray) p1.isList p2.isList p3.isList fun h' hz hTI hTO h1 h2 h3 hsz hk => wpAny_pyIter_zip hz ?_
        have I2 : Inv X pins σ H1 { s1 with heap := h' } := I1.kept (t' := s1.toks) hk
        refine ⟨s1.heap.objs.size + 5, [s1.heap.objs.size + 5, s1.heap.objs.size + 3, s1.heap.objs.size + 4, s1.heap.objs.size, s1.heap.objs.size + 1, s1.heap.objs.size + 2], _, _, H1, rfl, I2, turn_zip3 (sep3 la lb lc) (Nat.ne_of_lt la) (Nat.ne_of_lt (Nat.lt_succ_of_lt lb)) (Nat.ne_of_lt (Nat.lt_succ_of_lt (Nat.lt_succ_of_lt lc))), ⟨hz, hTI, ⟨_, _, _, hTO⟩, ⟨_, h1, rfl, rfl⟩, ⟨_, h2, rfl, rfl⟩, ⟨_, h3, rfl, rfl⟩⟩, fun q hcm => ?_, q⟩
        have e' : q = s1.heap.objs.size + 5 ∨ q = s1.heap.objs.size + 3 ∨ q = s1.heap.objs.size + 4 ∨ q = s1.heap.objs.size ∨ q = s1.heap.objs.size + 1 ∨ q = s1.heap.objs.size + 2 := by simpa using hcm
        have hle : s1.heap.objs.size ≤ q := by
          rcases e' with z | z | z | z | z | z
          · rw [z]; exact Nat.le_add_right _ _
          · rw [z]; exact Nat.le_add_right _ _
          · rw [z]; exact Nat.le_add_right _ _
          · rw [z]; exact Nat.le_refl _
          · rw [z]; exact Nat.le_add_right _ _
          · rw [z]; exact Nat.le_add_right _ _
        exact I1.fpOk hle (I1.hok.fresh hle)
end Pr
namespace Dn
open PySem PySem.Spec PyProof.Rows L2 Pr
def zip3D : List Dt → List Dt → List Dt → List Dt
  | a :: l, b :: m, c :: n => .tup [a, b, c] :: zip3D l m n
  | _, _, _ => []
theorem zip3D_get : ∀ (l m n : List Dt) (i : Nat), (zip3D l m n)[i]? = (match l[i]?, m[i]?, n[i]? with
  | some a, some b, some c => some (.tup [a, b, c])
  | _, _, _ => none)
  | [], _, _, _ => by simp [zip3D]
  | a :: l, [], _, i => by cases i <;> simp [zip3D]
  | a :: l, b :: m, [], i => by cases i <;> simp [zip3D]
  | a :: l, b :: m, c :: n, 0 => rfl
  | a :: l, b :: m, c :: n, i + 1 => by simpa [zip3D] using zip3D_get l m n i
theorem zip3D_len : ∀ (l m n : List Dt), (zip3D l m n).length = min (min l.length m.length) n.length
  | [], _, _ => by simp [zip3D]
  | a :: l, [], _ => by simp [zip3D]
  | a :: l, b :: m, [] => by simp [zip3D]
  | a :: l, b :: m, c :: n => by simp only [zip3D, List.length_cons, zip3D_len l m n]; omega
theorem zip3D_map {α : Type} (f g h : α → Dt) : ∀ (L : List α), zip3D (L.map f) (L.map g) (L.map h) = L.map fun x => .tup [f x, g x, h x]
  | [] => rfl
  | a :: l => by
    show _ :: zip3D (l.map f) (l.map g) (l.map h) = _
    rw [zip3D_map f g h l]
    rfl
section
variable {X : Cx} {K : PySem.W.Frag} {E : XK} {e : DX} {a b c : Expr} {ts : DTA} {pos p tpos : Pos} {elts : List Expr} {kk : Nat}
theorem ok_zip3 {G : Hp} {a b c : Addr} {l m n : List Dt} : ItOk K G (Itz3 K a b c) (zip3D l m n) (fun S => S a = some (.lst l) ∧ S b = some (.lst m) ∧ S c = some (.lst n)) := by
  refine ⟨fun Z i H S g x kp hi => ?_, fun Z H S g x kp => ?_, fun Z i H S x H' g e kp hi y => ?_⟩
  · obtain ⟨_, h1, vs, rfl, r⟩ := g.c a _ kp.1
    obtain ⟨_, h2, us, rfl, r2⟩ := g.c b _ kp.2.1
    obtain ⟨_, h3, ws, rfl, r3⟩ := g.c c _ kp.2.2
    rw [zip3D_len, r.len, r2.len, r3.len] at hi
    have i1 : i < vs.length := by omega
    have i2 : i < us.length := by omega
    have i3 : i < ws.length := by omega
    exact ⟨vs, us, ws, vs[i], us[i], ws[i], SqL.of h1, SqL.of h2, SqL.of h3, List.getElem?_eq_getElem _, List.getElem?_eq_getElem _, List.getElem?_eq_getElem _⟩
  · obtain ⟨_, h1, vs, rfl, r⟩ := g.c a _ kp.1
    obtain ⟨_, h2, us, rfl, r2⟩ := g.c b _ kp.2.1
    obtain ⟨_, h3, ws, rfl, r3⟩ := g.c c _ kp.2.2
    refine ⟨vs, us, ws, SqL.of h1, SqL.of h2, SqL.of h3, ?_⟩
    rw [zip3D_len, r.len, r2.len, r3.len]
    omega
  · obtain ⟨_, h1, vs, rfl, r⟩ := g.c a _ kp.1
    obtain ⟨_, h2, us, rfl, r2⟩ := g.c b _ kp.2.1
    obtain ⟨_, h3, ws, rfl, r3⟩ := g.c c _ kp.2.2
    obtain ⟨T, u, v, w, rfl, nT, rfl, q1, q2, q3⟩ := y
    obtain ⟨d1, e1, f1⟩ := Paired.get' (Reps.pair.mp r) (q1 vs (SqL.of h1))
    obtain ⟨d2, e2, f2⟩ := Paired.get' (Reps.pair.mp r2) (q2 us (SqL.of h2))
    obtain ⟨d3, e3, f3⟩ := Paired.get' (Reps.pair.mp r3) (q3 ws (SqL.of h3))
    exact ⟨.tup [d1, d2, d3], by rw [zip3D_get, e1, e2, e3], g.new nT, ext_new g nT, T, [u, v, w], rfl, SqT.of (out_new g nT), u, [v, w], rfl, Rep.ext (ext_new g nT) _ _ f1, v, [w], rfl, Rep.ext (ext_new g nT) _ _ f2, w, [], rfl, Rep.ext (ext_new g nT) _ _ f3, rfl⟩
@[reducible] def dItZ3 (t : DTA) : DTL := fun δ S q => t δ S fun xs S1 => match xs with
  | [.ref a, .ref b, .ref c] => ∃ l m n, S1 a = some (.lst l) ∧ S1 b = some (.lst m) ∧ S1 c = some (.lst n) ∧ q (zip3D l m n) (fun S => S a = some (.lst l) ∧ S b = some (.lst m) ∧ S c = some (.lst n)) S1
  | _ => False
theorem di_zip3 (hK : X.K = K) (hg : Gl X "zip") (hm : X.mg "zip" = none) (ha : PA X [a, b, c] (tDA K E e ts)) (hs : starEach [a, b, c] X.env = (false, eval a X.env) :: starEach [b, c] X.env := by rfl) (hpl : (backTo pos (starEach [b, c] X.env)).any (·.1) = false := by rfl) :
    PI X (.Tuple elts kk tpos) (.Call (.Name "zip" p) [a, b, c] [] pos) (tDI K E e (dItZ3 ts)) := ⟨fun pins s σ H R I h => by
  subst hK
  refine (pi_zip3 (pos := pos) hg hm ha hs hpl).run pins s σ H R I ?_
  obtain ⟨δ, S, Z, q, t, h, k⟩ := h
  refine ⟨δ, S, Z, _, t, h, fun vs xs H1 S1 g1 x1 r1 h1 => ?_⟩
  match xs, h1 with
  | [.ref a, .ref b, .ref c], ⟨l, m, n, e1, e2, e3, h1⟩ =>
    obtain ⟨v, u, y, rfl, rv, ru, ry⟩ := reps3 r1
    cases rv
    cases ru
    cases ry
    obtain ⟨_, f1, vs, rfl, _⟩ := g1.c a _ e1
    obtain ⟨_, f2, us, rfl, _⟩ := g1.c b _ e2
    obtain ⟨_, f3, ws, rfl, _⟩ := g1.c c _ e3
    exact ⟨a, b, c, vs, us, ws, rfl, SqL.of f1, SqL.of f2, SqL.of f3, k _ _ H1 S1 _ g1 x1 ok_zip3 h1⟩⟩
end
end Dn

open PySem PySem.Spec PyProof.Rows L2 Pr Dn

/-! steps over deep values -/
local macro_rules | `(tactic| walk_at "w") => `(tactic| with_reducible conv => whnf)
local macro_rules | `(tactic| walk_at "ne") => `(tactic| first
  | with_reducible assumption
  | exact Ne.symm (by with_reducible assumption)
  | exact ne_free (by with_reducible assumption) (by with_reducible assumption)
  | exact Ne.symm (ne_free (by with_reducible assumption) (by with_reducible assumption))
  | exact ne_cell (by with_reducible assumption) (by with_reducible assumption) (fun z => Cell.noConfusion z))
local macro_rules | `(tactic| walk_at "st") => `(tactic| first
  | with_reducible assumption
  | ((with_reducible refine Eq.trans sput_same ?_); rfl)
  | ((with_reducible refine Eq.trans (sput_ne ?_) ?_); (focus (walk_at "ne")); (walk_at "st"))
  | ((with_reducible refine Eq.trans (sdel_ne ?_) ?_); (focus (walk_at "ne")); (walk_at "st")))
local macro_rules | `(tactic| walk_at "su") => `(tactic| ((try dsimp only); walk_at "st"))
local macro_rules | `(tactic| walk_at "ar") => `(tactic| first | with_reducible assumption | omega | exact And.intro (by omega) (by omega) | exact ⟨by omega, by omega, by omega⟩ | exact Or.inr ⟨by omega, by omega⟩ | exact Or.inl ⟨by omega, by omega⟩ | decide)
local macro_rules | `(tactic| walk_at "sz") => `(tactic| first | with_reducible assumption | (refine szD ?_; first | (simp only [List.length_map, List.length_append, List.length_cons, List.length_nil, Dn.encD_len]; omega) | (simp; done)))
local macro_rules | `(tactic| walk_at "len") => `(tactic| omega)
local macro_rules | `(tactic| walk_at "q") => `(tactic| first
  | ((with_reducible show ∃ c, sput _ _ _ _ = some c ∧ _); refine ⟨_, by walk_at "st", ?_⟩)
  | ((with_reducible show ∃ c, (_ : Store) _ = some c ∧ _); refine ⟨_, by walk_at "st", ?_⟩)
  | ((with_reducible show ∃ l, _ = some (Cell.ins _ _ l) ∧ _); refine ⟨_, by walk_at "st", ?_⟩)
  | ((with_reducible show ∃ l, _ = some (Cell.lst l) ∧ _); refine ⟨_, by walk_at "st", ?_⟩)
  | ((with_reducible show ∃ l, _ = some (Cell.dct l) ∧ _); refine ⟨_, by walk_at "st", ?_⟩)
  | ((with_reducible show ∃ l, _ = some (Cell.dic l) ∧ _); refine ⟨_, by walk_at "st", ?_⟩)
  | ((with_reducible show ∃ l, (_ = some (Cell.dic l) ∨ _) ∧ _); refine ⟨_, Or.inl (by walk_at "st"), ?_⟩)
  | ((with_reducible show ∃ l, (_ = some (Cell.dic l) ∨ _) ∧ _); refine ⟨_, Or.inr ⟨_, by walk_at "st"⟩, ?_⟩)
  | ((with_reducible show ∃ u l, _ = some (Cell.lck u l) ∧ _); refine ⟨_, _, by walk_at "st", ?_⟩)
  | ((with_reducible show ∃ k, Dt.bl _ = Dt.bl k ∧ _); refine ⟨_, rfl, ?_⟩)
  | with_reducible refine eq_strS ?_ | with_reducible refine ne_strS ?_ | with_reducible refine eq_blS ?_ | with_reducible refine ne_blS ?_ | with_reducible refine eq_nonS ?_ | with_reducible refine ne_nonS ?_ | with_reducible refine eq_blStr ?_ | with_reducible refine ne_blStr ?_
  | with_reducible refine eq_int ?_ | with_reducible refine eq_str ?_ | with_reducible refine eq_bl ?_ | with_reducible refine ne_int ?_ | with_reducible refine ne_str ?_ | with_reducible refine ne_bl ?_
  | ((with_reducible show ∃ j, ixN _ _ = some j ∧ _); refine ⟨_, rfl, ?_⟩)
  | ((with_reducible show dAtN (List.set _ _ _) _ _); dsimp only [List.set, Int.reduceToNat])
  | with_reducible refine ift_nt ?_ | with_reducible refine ift_nf ?_
  | ((with_reducible show dLc _ _ _ _ _ _ _ _); rw [dLc_eq])
  | ((with_reducible show dFor _ _ _ _ _ _); rw [dFor_eq])
  | ((with_reducible show (_ < sizeLine) ∧ _); refine And.intro ?_ ?_; (focus (walk_at "sz")))
  | ((with_reducible show (_ ≤ sizeLine) ∧ _); refine And.intro ?_ ?_; (focus (first | with_reducible assumption | (refine szX ?_; walk_at "len") | (refine szl ?_; first | (simp only [List.length_map, List.length_append, List.length_cons, List.length_nil, Dn.encD_len]; omega) | (simp; done)))))
  | with_reducible refine in_str ?_ | with_reducible refine nin_str ?_
  | ((with_reducible show ∃ I : Nat → List Dt → Store → Prop, _); refine lc_go ?_)
  | ((with_reducible show ∃ I : Nat → DS → Store → Prop, _); refine for_go ?_)
  | ((with_reducible show ∃ b, kitB _ _ = some b ∧ _); refine ⟨_, rfl, ?_⟩)
  | ((with_reducible show dAtN (List.set _ _ _) _ _); dsimp only [List.set, Int.reduceToNat])
  | ((with_reducible show dLc _ _ _ _ _ _ _ _); rw [dLc_eq])
  | ((with_reducible show dFor _ _ _ _ _ _); rw [dFor_eq])
  | ((with_reducible show (_ < sizeLine) ∧ _); refine ⟨by walk_at "sz", lc_go ?_⟩)
  | ((with_reducible show ∃ I : Nat → DS → Store → Prop, (_ ∧ (∀ i δ S, i ≤ _ → _ → _) ∧ (∀ i d δ S, _ → _ → _) ∧ (∀ δ S, _ → _))); refine for_go ?_)
  | ((with_reducible refine iftN_f ?_ ?_); (focus decide)) | ((with_reducible refine iftN_t ?_ ?_); (focus decide))
  | ((with_reducible show _ ∧ _); refine ⟨by first | exact trivial | with_reducible exact rfl | exact ⟨rfl, rfl⟩ | walk_at "st" | walk_at "ar", ?_⟩))
local macro_rules | `(tactic| walk_at "go") => `(tactic| ((walk_at "w"); repeat ((walk_at "q"); (walk_at "w"))))
local macro_rules | `(tactic| walk_at "a") => `(tactic| first
  | with_reducible refine g_seq ?_)
open K05
open PySem PySem.Spec PyProof.Rows L2 Pr Dn

namespace K05
section
variable {P : Program} {w : World} {K : PySem.W.Frag} {mg : Str → Option Value} {base : Heap}
theorem ok_roll (T : Tx K mg) {f : Addr} {fd : FuncData} (F : FunD K "_law_roll" "_law_roll" (defArgs s_law_roll) (defBody s_law_roll) (defScope s_law_roll) [] [] f fd) : FnOk P w K mg base (L2.CX P w) 1 f fd ["dice", "many"] (spD K cRoll) := by
  refine dfn 3 F sc_law_roll (fun ds S q e h => ?_) rfl (fun cdv A outer s H E e hr => ⟨_, (dss_cons (ds_if (PW.pt (dt_or (dt_cmp (od_eq rfl (hU_of hr)) (de_ixC (n := 2) rfl (dv (pv 0))) de_int) (pw_or1 (PW.pt (dt_and (dt_cmp (od_eq rfl (hU_of hr)) (de_ixC (n := 2) rfl (dv (pv 0))) de_int) (pw_and1 (dt_cmp od_gt (de_ixC (n := 0) rfl (dv (pv 0))) de_int))))))) (dss_cons (ds_set (i := 2) sc_law_roll.nd rfl (Or.inl rfl) (de_op od_mod (de_callTy cd_int (by rfl) T.b_int (by decide +kernel) (da_cons (de_ixC (n := 0) rfl (dv (pv 0))) da_nil)) (dv (pv 1))))
  (dss_cons (ds_asg (de_op od_fdiv (de_ixC (n := 0) rfl (dv (pv 0))) (dv (pv 1))) (dg_subL (dv (pv 0)) de_int))
  (dss_one (ds_ret (dv (pv 2)))))) dss_nil)
  (dss_cons (ds_asg de_int (dg_subL (dv (pv 0)) de_int))
  (dss_cons (ds_if (dt_cmp od_gt (dv (pv 1)) de_int) (dss_one ds_never) dss_nil)
  (dss_cons (ds_asg (de_op od_mod (de_callTy cd_int (by rfl) T.b_int (by decide +kernel) (da_cons (de_op (od_add rfl) (de_op (od_add rfl) (de_op od_mul (de_ixC (n := 0) rfl (dv (pv 0))) de_int) (de_op od_mul (de_ixC (n := 1) rfl (dv (pv 0))) de_int)) de_int) da_nil)) de_int) (dg_subL (dv (pv 0)) de_int))
  (dss_cons (ds_asg (de_op (od_add rfl) (de_ixC (n := 1) rfl (dv (pv 0))) de_int) (dg_subL (dv (pv 0)) de_int))
  (dss_one (ds_ret (de_op od_mod (de_callTy cd_int (by rfl) T.b_int (by decide +kernel) (da_cons (de_op od_fdiv (de_ixC (n := 0) rfl (dv (pv 0))) de_int) da_nil)) (dv (pv 1)))))))))), fun ds S q h => ?_⟩)
  · obtain ⟨d, x, n, k, m, rfl, _⟩ := h
    rfl
  · obtain ⟨d, x, n, k, m, rfl, hd, hm, kk⟩ := h
    have fin : ∀ (y : Int) (x' n' k' : Int), q (.int (y % m)) (sput S d (.lst [.int x', .int n', .int k'])) := fun y x' n' k' => kk _ _ _ _ (Int.emod_nonneg _ (by omega)) (Int.emod_lt_of_pos _ hm.1)
    walk_at "go"
    refine ift (fun h => ?_) (fun h => ?_)
    · walk_at "go"
      exact fin _ _ _ _
    · walk_at "go"
      refine ift (fun h => ?_) (fun h => ?_)
      · walk_at "go"
        refine ift (fun h => ?_) (fun h => ?_)
        · walk_at "go"
          exact fin _ _ _ _
        · walk_at "go"
          refine ift_pf (by omega) ?_
          walk_at "go"
          simp only [sput_sput]
          exact fin _ _ _ _
      · walk_at "go"
        refine ift_pf (by omega) ?_
        walk_at "go"
        simp only [sput_sput]
        exact fin _ _ _ _
theorem ok_dice (T : Tx K mg) {f : Addr} {fd : FuncData} (F : FunD K "_law_dice" "_law_dice" (defArgs s_law_dice) (defBody s_law_dice) (defScope s_law_dice) [] [] f fd) : FnOk P w K mg base (L2.CX P w) 1 f fd ["cell"] (spD K cDice) := by
  refine dfn 1 F sc_law_dice (fun ds S q e h => ?_) rfl (fun cdv A outer s H E e hr => ⟨_, (dss_cons (ds_if (dt_chain od_lt od_lt (de_op od_sub de_int de_int) (dv (pv 0)) de_int) (dss_one (ds_ret (de_lstO (da_cons (de_callB cd_abs (by rfl) T.b_abs (by decide +kernel) (da_cons (dv (pv 0)) da_nil)) (da_cons de_int (da_cons de_int da_nil)))))) dss_nil)
  (dss_one (ds_ret (de_lstO (da_cons (dv (pv 0)) (da_cons (de_op (od_add rfl) de_int (de_op od_mod (de_callTy cd_int (by rfl) T.b_int (by decide +kernel) (da_cons (dv (pv 0)) da_nil)) de_int)) (da_cons (de_callTy cd_int (by rfl) T.b_int (by decide +kernel) (da_cons (de_cmp od_ge (dv (pv 0)) (de_op od_pow de_int de_int)) da_nil)) da_nil))))))), fun ds S q h => ?_⟩)
  · obtain ⟨c, rfl, _⟩ := h
    rfl
  · obtain ⟨c, rfl, kk⟩ := h
    walk_at "go"
    refine ift (fun h1 => ?_) (fun h1 => ?_)
    · walk_at "go"
      refine ift (fun h2 => ?_) (fun h2 => ?_)
      · walk_at "go"
        exact fun p hp => kk p _ _ _ hp
      · walk_at "go"
        exact fun p hp => kk p _ _ _ hp
    · walk_at "go"
      exact fun p hp => kk p _ _ _ hp
theorem ok_rounds (T : Tx K mg) (c__law_dice : CalX P w K mg base 1 "_law_dice" (spD K cDice) []) {f : Addr} {fd : FuncData} (F : FunD K "_law_rounds" "_law_rounds" (defArgs s_law_rounds) (defBody s_law_rounds) (defScope s_law_rounds) [] [] f fd) : FnOk P w K mg base (L2.CX P w) 2 f fd ["script", "most"] (spD K cRounds) := by
  refine dfn 4 F sc_law_rounds (fun ds S q e h => ?_) rfl (fun cdv A outer s H E e hr => ⟨_, (dss_cons (ds_set (i := 2) sc_law_rounds.nd rfl (Or.inl rfl) (de_sl rfl (dv (pv 0)) do_none (do_some (dv (pv 1)))))
  (dss_cons (ds_if (dt_cmp (od_eqV rfl (hU_of hr)) (dv (pv 2)) (de_lst da_nil)) (dss_one (ds_set (i := 2) sc_law_rounds.nd rfl (Or.inl rfl) (de_lst (da_cons de_int da_nil)))) dss_nil)
  (dss_one (ds_ret (de_lc (own := [("cell", 3)]) rfl sc_law_rounds.nd (di_lst rfl (dv (pv 2))) (blkOk_by (own := [("cell", 3)]) (N := sl_law_rounds) (sc := defScope s_law_rounds) (by decide +kernel)) (fun _ _ _ _ _ => (gw_name (i := 3) sc_law_rounds.nd rfl (Or.inl rfl) (by decide))) (fun _ _ _ _ _ => ts_nil) (fun _ _ _ _ _ => (de_call rfl c__law_dice dfl_nil hr (by decide) rfl passL (da_cons (dv (pv 3)) da_nil)))))))), fun ds S q h => ?_⟩)
  · obtain ⟨ns, rfl, _⟩ := h
    rfl
  · obtain ⟨ns, rfl, nl, kk⟩ := h
    walk_at "go"
    have e1 : ∃ ms : List Int, Dn.cutD (ns.map Dt.int) none (some 1) = ms.map Dt.int ∧ ms.length ≤ 1 := by
      refine ⟨ns.take 1, ?_, by simp; omega⟩
      unfold Dn.cutD
      simp only [HT.sIx, List.length_map, List.map_take]
      cases ns with
      | nil => rfl
      | cons n r => simp
    obtain ⟨ms, e1, ml⟩ := e1
    rw [e1]
    refine ((tells_enc (α := Int)).lst).eq (a := ms) (b := []) (by decide) ?_
    walk_at "go"
    have fin : ∀ i : Int, dLc (dItLs (dVar 2)) (dName 3) [3] dYes (dCall cDice [] noX (dCons (dVar 3) dNil)) (fun l S' => q (.lst l) S') [some (.scr ns), some (.int 1), some (.lst [.int i]), none] S := fun i => by
      walk_at "go"
      refine ⟨i, rfl, fun p x n k np => ?_⟩
      walk_at "go"
      exact kk p x n k np
    refine ift (fun h => ?_) (fun h => ?_)
    · subst h
      walk_at "w"
      exact fin _
    · walk_at "w"
      obtain ⟨i, rfl⟩ : ∃ i, ms = [i] := by
        cases ms with
        | nil => exact absurd rfl h
        | cons i r =>
          cases r with
          | nil => exact ⟨i, rfl⟩
          | cons _ _ => simp at ml
      exact fin _
end
end K05

open PySem PySem.Spec PyProof.Rows L2 Pr Dn

namespace K05
@[reducible] def nodeC (K : PySem.W.Frag) (k : Int) (tag tx : Dt) (at_ ch : Addr) (par vl ck : Dt) : Cell := .ins (He.ga K "Node") nm_Node [.int k, tag, tx, .ref at_, .ref ch, par, vl, ck]
@[reducible] def docC (K : PySem.W.Frag) (nd : Addr) (n : Int) (r : List Dt) : Cell := .ins (He.ga K "Document") nm_Document (.ref nd :: .int n :: r)
def LeX (x : Addr) (S S' : Store) : Prop := ∀ a c, a ≠ x → S a = some c → S' a = some c
theorem LeX.refl {x : Addr} {S : Store} : LeX x S S := fun _ _ _ h => h
theorem LeX.own {x : Addr} {S S' : Store} {c : Cell} (h : LeX x S S') : LeX x S (sput S' x c) := fun a d n e => by rw [sput_ne n]; exact h a d n e
theorem LeX.put {x : Addr} {S S' : Store} {p : Addr} {c : Cell} (h : LeX x S S') (hp : S p = none) : LeX x S (sput S' p c) := fun a d n e => by
  by_cases z : a = p
  · rw [z, hp] at e; cases e
  · rw [sput_ne z]; exact h a d n e
theorem LeX.trans {x : Addr} {S T U : Store} (h : LeX x S T) (k : LeX x T U) : LeX x S U := fun a c n e => k a c n (h a c n e)
/-- the way up -/
inductive Up (K : PySem.W.Frag) (S : Store) : Addr → List Addr → Prop where
  | top {a : Addr} {k : Int} {tag tx vl ck : Dt} {at_ ch : Addr} (h : S a = some (nodeC K k tag tx at_ ch .non vl ck)) : Up K S a [a]
  | step {a b : Addr} {k : Int} {tag tx vl ck : Dt} {at_ ch : Addr} {l : List Addr} (h : S a = some (nodeC K k tag tx at_ ch (.ref b) vl ck)) (t : Up K S b l) : Up K S a (a :: l)
theorem Up.le {K : PySem.W.Frag} {S S' : Store} {a : Addr} {l : List Addr} (u : Up K S a l) (h : Hold l S S') : Up K S' a l := by
  induction u with
  | top e => exact .top (h _ List.mem_cons_self _ e)
  | step e t ih => exact .step (h _ List.mem_cons_self _ e) (ih fun b hb => h b (List.mem_cons_of_mem _ hb))
/-- what is next on the way up -/
def Nx (K : PySem.W.Frag) (S : Store) (d : Dt) (l : List Addr) : Prop := (d = .non ∧ l = []) ∨ ∃ b, d = .ref b ∧ Up K S b l
theorem Up.at {K : PySem.W.Frag} {S : Store} {a : Addr} {l : List Addr} (u : Up K S a l) : ∃ k tag tx at_ ch par vl ck r, S a = some (nodeC K k tag tx at_ ch par vl ck) ∧ l = a :: r ∧ Nx K S par r := by
  cases u with
  | top e => exact ⟨_, _, _, _, _, _, _, _, _, e, rfl, .inl ⟨rfl, rfl⟩⟩
  | step e t => exact ⟨_, _, _, _, _, _, _, _, _, e, rfl, .inr ⟨_, rfl, t⟩⟩
theorem Up.mem {K : PySem.W.Frag} {S : Store} {a : Addr} {l : List Addr} (u : Up K S a l) : ∀ b ∈ l, ∃ k tag tx at_ ch par vl ck, S b = some (nodeC K k tag tx at_ ch par vl ck) := by
  induction u with
  | top e => exact fun b hb => by rw [List.mem_singleton.mp hb]; exact ⟨_, _, _, _, _, _, _, _, e⟩
  | step e t ih =>
    intro b hb
    rcases List.mem_cons.mp hb with rfl | hb
    · exact ⟨_, _, _, _, _, _, _, _, e⟩
    · exact ih b hb
def cNode (K : PySem.W.Frag) : DSp := fun ds S q _ => ∃ m n tag tx, ds = [.ref m, .int n, tag, tx] ∧ S m = some (.ins (He.ga K "Node") nm_Node []) ∧ ∀ at_ ch S', S ch = none → ch ≠ m → S at_ = none → at_ ≠ m → at_ ≠ ch → S' at_ = some (.dic []) → S' m = some (nodeC K n tag tx at_ ch .non (.str "") (.bl false)) → S' ch = some (.lst []) → LeX m S S' → q .non S'
def cMake (K : PySem.W.Frag) : DSp := fun ds S q _ => ∃ dc nd n r L tag tx, ds = [.ref dc, tag, tx] ∧ S dc = some (docC K nd n r) ∧ S nd = some (.dic L) ∧ L.length ≤ 1000000 ∧
  ∀ m at_ ch S', S m = none → S ch = none → ch ≠ m → S at_ = none → at_ ≠ m → at_ ≠ ch → S' at_ = some (.dic []) → S' m = some (nodeC K n tag tx at_ ch .non (.str "") (.bl false)) → S' ch = some (.lst []) → S' dc = some (docC K nd (n + 1) r) → S' nd = some (.dic (kPut L (Sum.inl n) (.ref m))) → (∀ a c, a ≠ dc → a ≠ nd → S a = some c → S' a = some c) → q (.ref m) S'
def cDoc (K : PySem.W.Frag) : DSp := fun ds S q _ => ∃ dc, ds = [.ref dc] ∧ S dc = some (.ins (He.ga K "Document") nm_Document []) ∧
  ∀ nd m at_ ch L S', S nd = none → S m = none → S ch = none → S at_ = none → nd ≠ at_ → S' at_ = some (.dic []) → S' dc = some (docC K nd 1 [.ref m, .int 0]) → S' nd = some (.dic L) → L.length ≤ 1 → S' m = some (nodeC K 0 (.str "html") (.str "") at_ ch .non (.str "") (.bl false)) → S' ch = some (.lst []) → LeX dc S S' → q .non S'
def cIsText (K : PySem.W.Frag) : DSp := fun ds S q _ => ∃ m k tag tx at_ ch par vl ck, ds = [.ref m] ∧ S m = some (nodeC K k tag tx at_ ch par vl ck) ∧ (tag = .non ∨ ∃ z, tag = .str z) ∧ (tag = .non → q (.bl true) S) ∧ ((∃ z, tag = .str z) → q (.bl false) S)
def cPath (K : PySem.W.Frag) : DSp := fun ds S q _ => ∃ a l, ds = [.ref a] ∧ Up K S a l ∧ l.length ≤ 1000 ∧ ∀ S', Le S S' → q (.lst (l.reverse.map Dt.ref)) S'
def cLevels (K : PySem.W.Frag) : DSp := fun ds S q _ => ∃ m k tag tx at_ ch par vl ck, ds = [.ref m] ∧ S m = some (nodeC K k tag tx at_ ch par vl ck) ∧ S ch = some (.lst []) ∧ q (.int 1) S
section
variable {P : Program} {w : World} {K : PySem.W.Frag} {mg : Str → Option Value} {base : Heap}
theorem ok_Node (T : Tx K mg) {f : Addr} {fd : FuncData} (F : FunD K "__init__" "Node.__init__" (defArgs s_Node_init) (defBody s_Node_init) (defScope s_Node_init) [.str ""] [] f fd) : FnOk P w K mg base (L2.CX P w) 1 f fd ["self", "number", "tag", "text"] (spD K (cNode K)) := by
  refine dfn 4 F sc_Node_init (fun ds S q e h => ?_) rfl (fun cdv A outer s H E e hr => ⟨_, (dss_cons (ds_fld rfl (fd_Node_number T) (dv (pv 0)) (dv (pv 1)))
  (dss_cons (ds_fld rfl (fd_Node_tag T) (dv (pv 0)) (dv (pv 2)))
  (dss_cons (ds_fld rfl (fd_Node_text T) (dv (pv 0)) (dv (pv 3)))
  (dss_cons (ds_fld rfl (fd_Node_attributes T) (dv (pv 0)) de_dnewO)
  (dss_cons (ds_fld rfl (fd_Node_children T) (dv (pv 0)) (de_lstO da_nil))
  (dss_cons (ds_fld rfl (fd_Node_parent T) (dv (pv 0)) de_non)
  (dss_cons (ds_fld rfl (fd_Node_value T) (dv (pv 0)) de_str)
  (dss_one (ds_fld rfl (fd_Node_checked T) (dv (pv 0)) de_bl))))))))), fun ds S q h => ?_⟩)
  · obtain ⟨_, _, _, _, rfl, _⟩ := h
    rfl
  · obtain ⟨m, n, tag, tx, rfl, hm, h⟩ := h
    walk_at "go"
    intro at_ ha
    have ha0 := ha
    simp only [sput_sput] at ha0
    obtain ⟨na, ha0⟩ := sput_free ha0
    walk_at "go"
    intro ch hc
    have hc0 := hc
    obtain ⟨nc, hc0⟩ := sput_free hc0
    obtain ⟨nca, hc0⟩ := sput_free hc0
    simp only [sput_sput] at hc0
    obtain ⟨_, hc0⟩ := sput_free hc0
    walk_at "go"
    simp only [sput_sput]
    refine h at_ ch _ hc0 nc ha0 na nca.symm (by rw [sput_ne na, sput_ne nca.symm, sput_ne na, sput_same]) sput_same (by rw [sput_ne nc, sput_same]) ?_
    exact (((LeX.refl.own.put ha0).own).put hc0).own
theorem ok_is_text (T : Tx K mg) {f : Addr} {fd : FuncData} (F : FunD K "is_text" "Node.is_text" (defArgs s_Node_is_text) (defBody s_Node_is_text) (defScope s_Node_is_text) [] [] f fd) : FnOk P w K mg base (L2.CX P w) 1 f fd ["self"] (spD K (cIsText K)) := by
  refine dfn 1 F sc_Node_is_text (fun ds S q e h => ?_) rfl (fun cdv A outer s H E e hr => ⟨_, (dss_one (ds_ret (de_cmp od_is (de_fld rfl (fd_Node_tag T) (dv (pv 0))) de_non))), fun ds S q h => ?_⟩)
  · obtain ⟨_, _, _, _, _, _, _, _, _, rfl, _⟩ := h
    rfl
  · obtain ⟨m, k, tag, tx, at_, ch, par, vl, ck, rfl, hm, ht, h1, h2⟩ := h
    walk_at "go"
    rcases ht with rfl | ⟨z, rfl⟩
    · exact h1 rfl
    · exact h2 ⟨z, rfl⟩
theorem ok_path (T : Tx K mg) {f : Addr} {fd : FuncData} (F : FunD K "path" "Node.path" (defArgs s_Node_path) (defBody s_Node_path) (defScope s_Node_path) [] [] f fd) : FnOk P w K mg base (L2.CX P w) 1 f fd ["self"] (spD K (cPath K)) := by
  refine dfn 3 F sc_Node_path (fun ds S q e h => ?_) rfl (fun cdv A outer s H E e hr => ⟨_, (dss_cons (ds_par (i := 1) (j := 2) (by rfl) sc_Node_path.nd rfl rfl (by decide) rfl rfl (da_cons (de_lstO (da_cons (dv (pv 0)) da_nil)) (da_cons (de_fld rfl (fd_Node_parent T) (dv (pv 0))) da_nil)) (by rfl))
  (dss_cons (ds_while poX (dt_cmp od_isNot (dv (pv 2)) de_non) (dss_cons (ds_expr (de_bm rfl is_ls PySem.F.plainAttrs_list PySem.F.slot_list_append PySem.F.type_list_append md_append (dv (pv 1)) (da_cons (dv (pv 2)) da_nil)))
  (dss_one (ds_set (i := 2) sc_Node_path.nd rfl (Or.inl rfl) (de_fld rfl (fd_Node_parent T) (dv (pv 2)))))))
  (dss_one (ds_ret (de_rev rfl (dv (pv 1))))))), fun ds S q h => ?_⟩)
  · obtain ⟨_, _, rfl, _⟩ := h
    rfl
  · obtain ⟨a, l, rfl, u, ll, h⟩ := h
    obtain ⟨k, tag, tx, at_, ch, par, vl, ck, r, ha, rfl, hn⟩ := u.at
    walk_at "go"
    intro p hp
    have ha2 : (sput S p (.lst [.ref a])) a = _ := Le.put Le.refl hp a _ ha
    walk_at "go"
    refine ⟨fun j δ S' => ∃ l1 l2 d, a :: r = l1 ++ l2 ∧ j = l2.length ∧ Nx K S d l2 ∧ δ = [some (.ref a), some (.ref p), some d] ∧ S' = sput S p (.lst (l1.map Dt.ref)), ⟨_, [a], r, par, rfl, rfl, hn, rfl, rfl⟩, fun j δ S' hI => ?_⟩
    obtain ⟨l1, l2, d, el, rfl, hn, rfl, rfl⟩ := hI
    have ll2 := congrArg List.length el
    rw [List.length_append] at ll2
    rcases hn with ⟨rfl, rfl⟩ | ⟨b, rfl, u⟩
    · walk_at "go"
      rw [List.append_nil] at el
      rw [← List.map_reverse, ← el]
      exact h _ (Le.refl.put hp)
    · obtain ⟨k, tag, tx, at_, ch, par, vl, ck, r2, hb, rfl, hn⟩ := u.at
      have hb2 : ∀ x, (sput S p x) b = _ := fun x => Le.put Le.refl hp b _ hb
      walk_at "go"
      simp only [sput_sput]
      exact ⟨_, Nat.lt_succ_self _, l1 ++ [b], r2, par, by rw [el, List.append_assoc]; rfl, rfl, hn, rfl, by rw [List.map_append]; rfl⟩
theorem ok_levels (T : Tx K mg) {f : Addr} {fd : FuncData} (F : FunD K "levels_below" "Node.levels_below" (defArgs s_Node_levels_below) (defBody s_Node_levels_below) (defScope s_Node_levels_below) [] [] f fd) : FnOk P w K mg base (L2.CX P w) 1 f fd ["self"] (spD K (cLevels K)) := by
  refine dfn 5 F sc_Node_levels_below (fun ds S q e h => ?_) rfl (fun cdv A outer s H E e hr => ⟨_, (dss_cons (ds_par (i := 1) (j := 2) (by rfl) sc_Node_levels_below.nd rfl rfl (by decide) rfl rfl (da_cons (de_lst (da_cons (dv (pv 0)) da_nil)) (da_cons de_int da_nil)) (by rfl))
  (dss_cons (ds_while poX (dt_cmp (od_neN (hW_of hr)) (dv (pv 1)) (de_lst da_nil)) (dss_cons (ds_aug (i := 2) sc_Node_levels_below.nd rfl (Or.inl rfl) de_int ip_addD)
  (dss_one (ds_setLc2 (i := 1) (own := [("node", 3), ("child", 4)]) (vs1 := [4]) rfl sc_Node_levels_below.nd rfl rfl (sw_true rfl rfl rfl (by decide +kernel)) (di_lst rfl (dv (pv 1))) (blkOk_by (own := [("node", 3), ("child", 4)]) (N := sl_Node_levels_below) (sc := defScope s_Node_levels_below) (by decide +kernel)) (by decide) (fun _ _ _ _ _ => (gw_name (i := 3) sc_Node_levels_below.nd rfl (Or.inl rfl) (by decide))) (fun _ _ _ _ _ => ts_nil) (fun _ _ _ _ _ => (di_lst rfl (de_fld rfl (fd_Node_children T) (dv (pv 3))))) (fun _ _ _ _ _ => (gw_name (i := 4) sc_Node_levels_below.nd rfl (Or.inl rfl) (by decide))) (fun _ _ _ _ _ => ts_nil) (fun _ _ _ _ _ => (dv (pv 4)))))))
  (dss_one (ds_ret (dv (pv 2)))))), fun ds S q h => ?_⟩)
  · obtain ⟨_, _, _, _, _, _, _, _, _, rfl, _⟩ := h
    rfl
  · obtain ⟨m, k, tag, tx, at_, ch, par, vl, ck, rfl, hm, hc, h⟩ := h
    walk_at "go"
    refine ⟨fun j δ S' => S = S' ∧ ((j = 1 ∧ δ = [some (.ref m), some (.lst [.ref m]), some (.int 0), none, none]) ∨ j = 0 ∧ δ = [some (.ref m), some (.lst []), some (.int 1), none, none]), ⟨1, rfl, .inl ⟨rfl, rfl⟩⟩, fun j δ S' hI => ?_⟩
    rcases hI with ⟨rfl, ⟨rfl, rfl⟩ | ⟨rfl, rfl⟩⟩
    · walk_at "go"
      rw [List.isEmpty_cons]
      walk_at "go"
      unfold dLc2
      walk_at "go"
      refine ⟨fun i acc S' => acc = [] ∧ S = S', ⟨rfl, rfl⟩, fun i acc S' _ hI => trivial, fun i d acc S' hd hI => ?_, fun acc S' hI => ?_⟩
      · obtain ⟨rfl, rfl⟩ := hI
        match i, d, hd with
        | 0, _, rfl =>
          walk_at "go"
          refine ⟨fun j acc S' => acc = [] ∧ S = S', ⟨rfl, rfl⟩, fun _ _ _ _ hI => by obtain ⟨_, rfl⟩ := hI; exact hc, fun j d acc S' hd hI => (by cases hd), fun acc S' hI => hI⟩
      · obtain ⟨rfl, rfl⟩ := hI
        exact ⟨_, Nat.zero_lt_one, rfl, .inr ⟨rfl, rfl⟩⟩
    · walk_at "go"
      rw [List.isEmpty_nil]
      walk_at "go"
      exact h
end
end K05

open PySem PySem.Spec PyProof.Rows L2 Pr Dn LamX

namespace K05
theorem df_Document_make_1 {K : PySem.W.Frag} : Dfl K [.str ""] [.str ""] := fun G => ⟨_, _, rfl, ⟨rfl, by decide, by kernel_rfl⟩, rfl⟩
def voids : List Str := ["br", "hr", "img", "input", "meta", "link"]
/-- child put as the last one of parent -/
def PlP (K : PySem.W.Frag) (dc pa ch : Addr) (S : Store) (go : Store → Prop) : Prop := ∃ kp tp txp atp cp parp vp ckp kc tag tx atc cc vc ckc cs l nd n r v,
  S pa = some (nodeC K kp (.str tp) txp atp cp parp vp ckp) ∧ tp ∉ voids ∧ Up K S pa l ∧ l.length ≤ 98 ∧ (∀ x ∈ l, ∀ k' tag' tx' at' ch' par' v' c', S x = some (nodeC K k' tag' tx' at' ch' par' v' c') → k' ≠ kc) ∧
  S ch = some (nodeC K kc tag tx atc cc .non vc ckc) ∧ kc ≠ 0 ∧ S cc = some (.lst []) ∧ S cp = some (.lst cs) ∧ cs.length ≤ 1000000 ∧ S dc = some (docC K nd n [r, .int v]) ∧
  ∀ S', S' ch = some (nodeC K kc tag tx atc cc (.ref pa) vc ckc) → S' cp = some (.lst (cs ++ [.ref ch])) → S' dc = some (docC K nd n [r, .int (v + 1)]) → (∀ a x, a ≠ ch → a ≠ cp → a ≠ dc → S a = some x → S' a = some x) → go S'
def cNever : DSp := fun _ _ _ _ => False
def cPlace (K : PySem.W.Frag) : DSp := fun ds S q _ => ∃ dc pa ch n, ds = [.ref dc, .ref pa, .ref ch, .int n] ∧ (∀ kp tp txp atp cp parp vp ckp cs, S pa = some (nodeC K kp tp txp atp cp parp vp ckp) → S cp = some (.lst cs) → n = cs.length) ∧ S (He.cT K ("Document", some "place_before")).2 = some .gtb ∧ PlP K dc pa ch S (q .non)
def cAppend (K : PySem.W.Frag) : DSp := fun ds S q _ => ∃ dc pa ch, ds = [.ref dc, .ref pa, .ref ch] ∧ S (He.cT K ("Document", some "place_before")).2 = some .gtb ∧ PlP K dc pa ch S (q .non)
section
variable {P : Program} {w : World} {K : PySem.W.Frag} {mg : Str → Option Value} {base : Heap}
theorem ok_make (T : Tx K mg) (k_Node : MakX P w K mg base 1 "Node" (He.ga K "Node") (spD K (cNode K)) []) {f : Addr} {fd : FuncData} (F : FunD K "make" "Document.make" (defArgs s_Document_make) (defBody s_Document_make) (defScope s_Document_make) [.str ""] [] f fd) : FnOk P w K mg base (L2.CX P w) 3 f fd ["self", "tag", "text"] (spD K (cMake K)) := by
  refine dfn 4 F sc_Document_make (fun ds S q e h => ?_) rfl (fun cdv A outer s H E e hr => ⟨_, (dss_cons (ds_set (i := 3) sc_Document_make.nd rfl (Or.inl rfl) (de_make (nm := nm_Node) rfl k_Node dfl_nil hr (by decide) rfl paX (da_cons (de_fld rfl (fd_Document_next_number T) (dv (pv 0))) (da_cons (dv (pv 1)) (da_cons (dv (pv 2)) da_nil)))))
  (dss_cons (ds_asg (dv (pv 3)) (dg_subD (hu_of hr) (de_fld rfl (fd_Document_nodes T) (dv (pv 0))) (de_fld rfl (fd_Node_number T) (dv (pv 3)))))
  (dss_cons (ds_fldaug (K := K) rfl (fd_Document_next_number T) in_addD (dv (pv 0)) de_int)
  (dss_one (ds_ret (dv (pv 3))))))), fun ds S q h => ?_⟩)
  · obtain ⟨_, _, _, _, _, _, _, rfl, _⟩ := h
    rfl
  · obtain ⟨dc, nd, n, r, L, tag, tx, rfl, hd, hn, hL, h⟩ := h
    walk_at "go"
    intro m hm
    refine ⟨m, n, tag, tx, rfl, sput_same, fun at_ ch S1 hc nc hta nam nac hat h1 h2 le => ⟨rfl, ?_⟩⟩
    obtain ⟨_, hc⟩ := sput_free hc
    obtain ⟨_, hta⟩ := sput_free hta
    have nad : at_ ≠ dc := fun z => by rw [z, hd] at hta; cases hta
    have nan : at_ ≠ nd := fun z => by rw [z, hn] at hta; cases hta
    have ndm : dc ≠ m := fun z => by rw [z, hm] at hd; cases hd
    have nnm : nd ≠ m := fun z => by rw [z, hm] at hn; cases hn
    have nnd : nd ≠ dc := fun z => by rw [z, hd] at hn; cases hn
    have ncd : ch ≠ dc := fun z => by rw [z, hd] at hc; cases hc
    have ncn : ch ≠ nd := fun z => by rw [z, hn] at hc; cases hc
    have hd1 : S1 dc = _ := le _ _ ndm (by rw [sput_ne ndm]; exact hd)
    have hn1 : S1 nd = _ := le _ _ nnm (by rw [sput_ne nnm]; exact hn)
    walk_at "go"
    refine ⟨size6 (by omega), ?_⟩
    walk_at "go"
    refine h m at_ ch _ hm hc nc hta nam nac (by rw [sput_ne nad, sput_ne nan]; exact hat) ?_ ?_ sput_same ?_ fun a c n1 n2 e => ?_
    · rw [sput_ne ndm.symm, sput_ne nnm.symm]; exact h1
    · rw [sput_ne ncd, sput_ne ncn]; exact h2
    · rw [sput_ne nnd, sput_same]
    · rw [sput_ne n1, sput_ne n2]
      have nam : a ≠ m := fun z => by rw [z, hm] at e; cases e
      exact le _ _ nam (by rw [sput_ne nam]; exact e)
theorem ok_Document (T : Tx K mg) (m_Document_make_1 : MetX P w K mg base 3 (He.ga K "Document") "make" (spD K (cMake K)) [.str ""]) {f : Addr} {fd : FuncData} (F : FunD K "__init__" "Document.__init__" (defArgs s_Document_init) (defBody s_Document_init) (defScope s_Document_init) [] [] f fd) : FnOk P w K mg base (L2.CX P w) 4 f fd ["self"] (spD K (cDoc K)) := by
  refine dfn 1 F sc_Document_init (fun ds S q e h => ?_) rfl (fun cdv A outer s H E e hr => ⟨_, (dss_cons (ds_fld rfl (fd_Document_nodes T) (dv (pv 0)) de_dnewO)
  (dss_cons (ds_fld rfl (fd_Document_next_number T) (dv (pv 0)) de_int)
  (dss_cons (ds_fld rfl (fd_Document_root T) (dv (pv 0)) (de_meth (nm := nm_Document) rfl m_Document_make_1 (by decide +kernel) (df_Document_make_1) hr (by decide) paX (dv (pv 0)) (da_cons de_str da_nil)))
  (dss_one (ds_fld rfl (fd_Document_version T) (dv (pv 0)) de_int))))), fun ds S q h => ?_⟩)
  · obtain ⟨_, rfl, _⟩ := h
    rfl
  · obtain ⟨dc, rfl, hd, h⟩ := h
    walk_at "go"
    intro nd hn
    walk_at "go"
    refine ⟨dc, nd, 0, [], [], _, _, rfl, sput_same, by rw [sput_ne (fun z => by rw [z, hd] at hn; cases hn), sput_ne (fun z => by rw [z, hd] at hn; cases hn), sput_same], Nat.zero_le _, fun m at_ ch S1 hm hc nc hta nam nac hat h1 h2 h3 h4 le => ?_⟩
    obtain ⟨nad, hta⟩ := sput_free hta
    obtain ⟨_, hta⟩ := sput_free hta
    obtain ⟨nan, hta⟩ := sput_free hta
    obtain ⟨nmd, hm⟩ := sput_free hm
    obtain ⟨_, hm⟩ := sput_free hm
    obtain ⟨nmn, hm⟩ := sput_free hm
    obtain ⟨ncd, hc⟩ := sput_free hc
    obtain ⟨_, hc⟩ := sput_free hc
    obtain ⟨ncn, hc⟩ := sput_free hc
    walk_at "go"
    have nnd : nd ≠ dc := fun z => by rw [z, hd] at hn; cases hn
    refine h nd m at_ ch _ _ hn hm hc hta nan.symm (by rw [sput_ne nad, sput_ne nad]; exact hat) sput_same (by rw [sput_ne nnd, sput_ne nnd]; exact h4) (Nat.le_refl _) (by rw [sput_ne nmd, sput_ne nmd]; exact h1) (by rw [sput_ne ncd, sput_ne ncd]; exact h2) fun a c n1 e => ?_
    rw [sput_ne n1, sput_ne n1]
    have nan : a ≠ nd := fun z => by rw [z, hn] at e; cases e
    exact le _ _ n1 nan (by rw [sput_ne n1, sput_ne n1, sput_ne nan]; exact e)
theorem ok_place (T : Tx K mg) (m_Node_is_text : MetX P w K mg base 1 (He.ga K "Node") "is_text" (spD K (cIsText K)) []) (m_Node_path : MetX P w K mg base 1 (He.ga K "Node") "path" (spD K (cPath K)) [])
    (m_Node_levels_below : MetX P w K mg base 1 (He.ga K "Node") "levels_below" (spD K (cLevels K)) []) (m_Node_place_in : MetX P w K mg base 1 (He.ga K "Node") "place_in" (spD K cNever) []) (m_Document_remove : MetX P w K mg base 3 (He.ga K "Document") "remove" (spD K cNever) [])
    {f : Addr} {fd : FuncData} (F : FunD K "place_before" "Document.place_before" (defArgs s_Document_place_before) (defBody s_Document_place_before) (defScope s_Document_place_before) [] [] f fd) (hTB : ∀ c, fd.code = .ref c → TabB base mg c (He.cT K ("Document", some "place_before")).2) : FnOk P w K mg base (L2.CX P w) 5 f fd ["self", "parent", "child", "place"] (spD K (cPlace K)) := by
  refine dfnC 6 F sc_Document_place_before hTB (fun ds S q e h => ?_) rfl (fun c0 A outer s H E e TB hr => ⟨_, (dss_cons (ds_if (PW.pt (dt_or (de_tru rfl (de_meth0 (nm := nm_Node) rfl m_Node_is_text (by decide +kernel) dfl_nil hr (by decide) paX (dv (pv 1)))) (pw_or1 (dt_cmp (od_in rfl (hW_of hr)) (de_fld rfl (fd_Node_tag T) (dv (pv 1))) (de_gcT rfl T.g_VOID (rep_tup T.t_VOID)))))) (dss_one (dr_raise (C := He.ga K "TreeError") PySem.F.excBase_ValueError T.x_TreeError.1 T.g_TreeError T.x_TreeError.2.1 (raises_own T.x_TreeError.2.2.1 T.x_TreeError.2.2.2) rfl)) dss_nil)
  (dss_cons (ds_if (PW.pt (dt_or (dt_cmp (od_eq rfl (hU_of hr)) (de_fld rfl (fd_Node_number T) (dv (pv 2))) de_int) (pw_or1 (de_tru rfl (de_anyG (k := 0) (ig := none) (own := [("node", 5)]) rfl (Or.inl ⟨rfl, rfl⟩) (hr.mono (by decide)) (by rfl) T.b_any TB rfl sc_Document_place_before.nd (gnB_of (N := sl_Document_place_before) (sc := defScope s_Document_place_before) (by decide +kernel)) (fun _ z => by cases z) (di_lst rfl (de_meth0 (nm := nm_Node) rfl m_Node_path (by decide +kernel) dfl_nil hr (by decide) paX (dv (pv 1)))) (fun _ => rfl) ⟨(fun s H A' cl L code fp hr => (gw_name (i := 5) sc_Document_place_before.nd rfl (Or.inl rfl) (by decide))), (fun s H A' cl L code fp hr => ts_nil), (fun s H A' cl L code fp hr => (de_cmp (od_eq rfl (hU_of hr)) (de_fld rfl (fd_Node_number T) (dv (pv 5))) (de_fld rfl (fd_Node_number T) (dv (pv 2)))))⟩))))) (dss_one (dr_raise (C := He.ga K "TreeError") PySem.F.excBase_ValueError T.x_TreeError.1 T.g_TreeError T.x_TreeError.2.1 (raises_own T.x_TreeError.2.2.1 T.x_TreeError.2.2.2) rfl)) dss_nil)
  (dss_cons (ds_if (dt_cmp od_gt (de_op (od_add rfl) (de_callB (cd_len rfl) (by rfl) T.b_len (by decide +kernel) (da_cons (de_meth0 (nm := nm_Node) rfl m_Node_path (by decide +kernel) dfl_nil hr (by decide) paX (dv (pv 1))) da_nil)) (de_meth0 (nm := nm_Node) rfl m_Node_levels_below (by decide +kernel) dfl_nil hr (by decide) paX (dv (pv 2)))) (de_gcI rfl T.g_MOST_LEVELS)) (dss_one (dr_raise (C := He.ga K "TreeError") PySem.F.excBase_ValueError T.x_TreeError.1 T.g_TreeError T.x_TreeError.2.1 (raises_own T.x_TreeError.2.2.1 T.x_TreeError.2.2.2) rfl)) dss_nil)
  (dss_cons (ds_if (dt_not (dt_chain od_le od_le de_int (dv (pv 3)) (de_callB (cd_len rfl) (by rfl) T.b_len (by decide +kernel) (da_cons (de_fld rfl (fd_Node_children T) (dv (pv 1))) da_nil)))) (dss_one (dr_raise (C := He.ga K "TreeError") PySem.F.excBase_ValueError T.x_TreeError.1 T.g_TreeError T.x_TreeError.2.1 (raises_own T.x_TreeError.2.2.1 T.x_TreeError.2.2.2) rfl)) dss_nil)
  (dss_cons (ds_if (dt_cmp od_isNot (de_fld rfl (fd_Node_parent T) (dv (pv 2))) de_non) (dss_cons (ds_set (i := 4) sc_Document_place_before.nd rfl (Or.inl rfl) (de_meth0 (nm := nm_Node) rfl m_Node_place_in (by decide +kernel) dfl_nil hr (by decide) paX (dv (pv 2))))
  (dss_cons (ds_if (PW.pt (dt_and (dt_cmp (od_eq rfl (hU_of hr)) (de_fld rfl (fd_Node_number T) (de_fld rfl (fd_Node_parent T) (dv (pv 2)))) (de_fld rfl (fd_Node_number T) (dv (pv 1)))) (pw_and1 (dt_cmp od_lt (dv (pv 4)) (dv (pv 3)))))) (dss_one (ds_aug (i := 3) sc_Document_place_before.nd rfl (Or.inl rfl) de_int ip_subD)) dss_nil)
  (dss_one (ds_expr (de_meth (nm := nm_Document) rfl m_Document_remove (by decide +kernel) dfl_nil hr (by decide) paX (dv (pv 0)) (da_cons (dv (pv 2)) da_nil)))))) dss_nil)
  (dss_cons (ds_expr (de_bm rfl is_ls PySem.F.plainAttrs_list PySem.F.slot_list_insert PySem.F.type_list_insert md_insert (de_fld rfl (fd_Node_children T) (dv (pv 1))) (da_cons (dv (pv 3)) (da_cons (dv (pv 2)) da_nil))))
  (dss_cons (ds_fld rfl (fd_Node_parent T) (dv (pv 2)) (dv (pv 1)))
  (dss_one (ds_fldaug (K := K) rfl (fd_Document_version T) in_addD (dv (pv 0)) de_int))))))))), fun ds S q h => ?_⟩)
  · obtain ⟨_, _, _, _, rfl, _⟩ := h
    rfl
  · obtain ⟨dc, pa, ch, n, rfl, hn, hT, kp, tp, txp, atp, cp, parp, vp, ckp, kc, tag, tx, atc, cc, vc, ckc, cs, l, nd, nn, r, v, hp, htp, u, ul, hne, hc, hkc, hcc, hcp, csl, hd, h⟩ := h
    obtain rfl := hn _ _ _ _ _ _ _ _ _ hp hcp
    walk_at "go"
    refine ⟨pa, kp, .str tp, txp, atp, cp, parp, vp, ckp, rfl, hp, .inr ⟨tp, rfl⟩, (fun z => by cases z), fun _ => ?_⟩
    walk_at "go"
    refine in_tup ["br", "hr", "img", "input", "meta", "link"] rfl ?_
    rw [decide_eq_false (show ¬ tp ∈ (["br", "hr", "img", "input", "meta", "link"] : List Str) from htp)]
    walk_at "go"
    refine ift_pf hkc ?_
    walk_at "go"
    refine ⟨pa, l, rfl, u, by omega, fun S1 le => ⟨le _ _ hT, fun c P' => ?_⟩⟩
    have hp1 : S1 pa = _ := le _ _ hp
    have hc1 : S1 ch = _ := le _ _ hc
    have hcc1 : S1 cc = _ := le _ _ hcc
    have hcp1 : S1 cp = _ := le _ _ hcp
    have hd1 : S1 dc = _ := le _ _ hd
    refine any_map (xs := l.reverse) (f := Dt.ref) rfl (fun _ => false) trivial (fun x hx C D hC => ?_) ?_
    · obtain ⟨k', tag', tx', at', ch', par', v', c', hx2⟩ := u.mem x (List.mem_reverse.mp hx)
      have ne := hne x (List.mem_reverse.mp hx) _ _ _ _ _ _ _ _ hx2
      have hx3 : S1 x = _ := le _ _ hx2
      walk_at "go"
      rw [decide_eq_false ne]
      exact hC
    · rw [show l.reverse.any (fun _ => false) = false by simp]
      walk_at "go"
      refine ⟨pa, l, rfl, u.le (le.hold l), by omega, fun S2 le2 => ?_⟩
      have hp2 : S2 pa = _ := le2 _ _ hp1
      have hc2 : S2 ch = _ := le2 _ _ hc1
      have hcc2 : S2 cc = _ := le2 _ _ hcc1
      have hcp2 : S2 cp = _ := le2 _ _ hcp1
      have hd2 : S2 dc = _ := le2 _ _ hd1
      walk_at "go"
      refine ⟨ch, kc, tag, tx, atc, cc, .non, vc, ckc, rfl, hc2, hcc2, ?_⟩
      walk_at "go"
      rw [List.length_map, List.length_reverse]
      refine ift_pf (by omega) ?_
      walk_at "go"
      rw [decide_eq_true (show (0 : Int) ≤ cs.length by omega)]
      walk_at "go"
      refine iftN_f (by omega) ?_
      walk_at "go"
      refine ⟨⟨size6 (by omega), by omega, by omega⟩, ?_⟩
      rw [Int.toNat_natCast, List.take_length, List.drop_length, List.append_nil]
      have ncp : ch ≠ cp := fun z => by rw [z, hcp] at hc; cases hc
      have ndp : dc ≠ cp := fun z => by rw [z, hcp] at hd; cases hd
      have npp : pa ≠ cp := fun z => by rw [z, hcp] at hp; cases hp
      have ndc : dc ≠ ch := fun z => by
        rw [z, hc] at hd
        injection hd with hd
        injection hd with _ hd _
        exact absurd hd (by decide)
      walk_at "go"
      refine h _ ?_ ?_ ?_ fun a x n1 n2 n3 ha => ?_
      · rw [sput_ne ndc.symm, sput_same]
      · rw [sput_ne ndp.symm, sput_ne ncp.symm, sput_same]
      · exact sput_same
      · rw [sput_ne n3, sput_ne n1, sput_ne n2]
        exact le2 _ _ (le _ _ ha)
theorem ok_append (T : Tx K mg) (m_Document_place_before : MetX P w K mg base 5 (He.ga K "Document") "place_before" (spD K (cPlace K)) []) {f : Addr} {fd : FuncData} (F : FunD K "append" "Document.append" (defArgs s_Document_append) (defBody s_Document_append) (defScope s_Document_append) [] [] f fd) : FnOk P w K mg base (L2.CX P w) 6 f fd ["self", "parent", "child"] (spD K (cAppend K)) := by
  refine dfn 3 F sc_Document_append (fun ds S q e h => ?_) rfl (fun cdv A outer s H E e hr => ⟨_, (dss_one (ds_expr (de_meth (nm := nm_Document) rfl m_Document_place_before (by decide +kernel) dfl_nil hr (by decide) paX (dv (pv 0)) (da_cons (dv (pv 1)) (da_cons (dv (pv 2)) (da_cons (de_callB (cd_len rfl) (by rfl) T.b_len (by decide +kernel) (da_cons (de_fld rfl (fd_Node_children T) (dv (pv 1))) da_nil)) da_nil)))))), fun ds S q h => ?_⟩)
  · obtain ⟨_, _, _, rfl, _⟩ := h
    rfl
  · obtain ⟨dc, pa, ch, rfl, tb, kp, tp, txp, atp, cp, parp, vp, ckp, kc, tag, tx, atc, cc, vc, ckc, cs, l, nd, nn, r, v, hp, htp, u, ul, hne, hc, hkc, hcc, hcp, csl, hd, h⟩ := h
    walk_at "go"
    refine ⟨dc, pa, ch, cs.length, rfl, fun kp' tp' txp' atp' cp' parp' vp' ckp' cs' h1 h2 => ?_, tb, kp, tp, txp, atp, cp, parp, vp, ckp, kc, tag, tx, atc, cc, vc, ckc, cs, l, nd, nn, r, v, hp, htp, u, ul, hne, hc, hkc, hcc, hcp, csl, hd, h⟩
    rw [hp] at h1
    injection h1 with h1
    injection h1 with _ _ h1
    injection h1 with _ h1
    injection h1 with _ h1
    injection h1 with _ h1
    injection h1 with _ h1
    injection h1 with h1 _
    injection h1 with h1
    subst h1
    rw [hcp] at h2
    injection h2 with h2
    injection h2 with h2
    rw [h2]
theorem no_place_in {f : Addr} {fd : FuncData} (F : FunD K "place_in" "Node.place_in" (defArgs s_Node_place_in) (defBody s_Node_place_in) (defScope s_Node_place_in) [] [] f fd) : FnOk P w K mg base (L2.CX P w) 1 f fd ["self"] (spD K cNever) := fn_no F sc_Node_place_in fun ds S q e h => h.elim
theorem no_remove {f : Addr} {fd : FuncData} (F : FunD K "remove" "Document.remove" (defArgs s_Document_remove) (defBody s_Document_remove) (defScope s_Document_remove) [] [] f fd) : FnOk P w K mg base (L2.CX P w) 3 f fd ["self", "child"] (spD K cNever) := fn_no F sc_Document_remove fun ds S q e h => h.elim
end
end K05

open PySem PySem.Spec PyProof.Rows L2 Pr Dn
/-! what the scanner reads -/
namespace K05
def hereS (z : Str) (p n : Nat) : Str := cutS z (some (p : Int)) (some ((p : Int) + n))
def spanE (ok : Str → Bool) (z : Str) : Nat → Nat → Nat
  | 0, p => p
  | n + 1, p => if hereS z p 1 ≠ "" ∧ ok (hereS z p 1) = true then spanE ok z n (p + 1) else p
def span (ok : Str → Bool) (z : Str) (p : Nat) : Nat := spanE ok z (z.length - p) p
def blankS : Str := " \n"
def tagS : Str := "abcdefghijklmnopqrstuvwxyz0123456789-"
def skipP (z : Str) (p : Nat) : Nat := span (hasS blankS) z p
def nameP (z : Str) (p : Nat) : Nat := span (hasS tagS) z p
theorem cut_nat {z : Str} {i j : Nat} (h : i ≤ j) : cutS z (some (i : Int)) (some (j : Int)) = ⟨((z.cps.toList.drop i).take (j - i)).toArray⟩ := by
  unfold cutS
  rw [HT.sIx_nat, HT.sIx_nat]
  have hl : z.cps.toList.length = z.length := by rw [Array.length_toList]; rfl
  rcases Nat.lt_or_ge i z.length with hi | hi
  · rw [Nat.min_eq_left (Nat.le_of_lt hi)]
    rcases Nat.lt_or_ge j z.length with hj | hj
    · rw [Nat.min_eq_left (Nat.le_of_lt hj)]
    · rw [Nat.min_eq_right hj, List.take_of_length_le (i := z.length - i) (by rw [List.length_drop, hl]; exact Nat.le_refl _), List.take_of_length_le (by rw [List.length_drop, hl]; omega)]
  · rw [Nat.min_eq_right hi, List.drop_eq_nil_of_le (by rw [hl]; exact Nat.le_refl _), List.drop_eq_nil_of_le (by rw [hl]; exact hi), List.take_nil, List.take_nil]
theorem here_eq {z : Str} {p n : Nat} : hereS z p n = ⟨((z.cps.toList.drop p).take n).toArray⟩ := by
  unfold hereS
  rw [show (p : Int) + n = ((p + n : Nat) : Int) by omega, cut_nat (Nat.le_add_right _ _), Nat.add_sub_cancel_left]
theorem here_lt {z : Str} {p : Nat} (h : hereS z p 1 ≠ "") : p < z.length := by
  rcases Nat.lt_or_ge p z.length with h1 | h1
  · exact h1
  · refine absurd ?_ h
    rw [here_eq, List.drop_eq_nil_of_le (by rw [Array.length_toList]; exact h1), List.take_nil]
    rfl
theorem span_step {ok : Str → Bool} {z : Str} {p : Nat} (h : hereS z p 1 ≠ "") (h2 : ok (hereS z p 1) = true) : span ok z p = span ok z (p + 1) := by
  have hp := here_lt h
  unfold span
  rw [show z.length - p = (z.length - (p + 1)) + 1 by omega]
  show (if _ then _ else _) = _
  rw [if_pos ⟨h, h2⟩]
theorem span_stop {ok : Str → Bool} {z : Str} {p : Nat} (h : ¬ (hereS z p 1 ≠ "" ∧ ok (hereS z p 1) = true)) : span ok z p = p := by
  unfold span
  cases z.length - p with
  | zero => rfl
  | succ n =>
    show (if _ then _ else _) = _
    rw [if_neg h]
theorem span_le (ok : Str → Bool) (z : Str) : ∀ n p, p ≤ spanE ok z n p
  | 0, p => Nat.le_refl p
  | n + 1, p => by
    show p ≤ if _ then _ else _
    split
    · exact Nat.le_trans (Nat.le_succ p) (span_le ok z n (p + 1))
    · exact Nat.le_refl p
theorem span_max (ok : Str → Bool) (z : Str) : ∀ n p, p ≤ z.length → spanE ok z n p ≤ z.length
  | 0, p, h => h
  | n + 1, p, h => by
    show (if _ then _ else _) ≤ _
    split
    · rename_i h2
      exact span_max ok z n (p + 1) (here_lt h2.1)
    · exact h
/-- up to a sign, and past it -/
def upP (z sign : Str) (p : Nat) : Option (Str × Nat) := if Txt.find3 z sign (p : Int) < 0 then none else some (cutS z (some (p : Int)) (some (Txt.find3 z sign (p : Int))), (Txt.find3 z sign (p : Int)).toNat + sign.length)
theorem find_at (z s : Str) (p : Nat) (hp : p ≤ z.length) : Txt.find3 z s (p : Int) = -1 ∨ ∃ k : Nat, Txt.find3 z s (p : Int) = (k : Int) ∧ p ≤ k ∧ k + s.length ≤ z.length := by
  unfold Txt.find3
  rcases PySem.StrLaws.occ_head_from z s (fromIndex z.length (p : Int)) 1 (Nat.le_refl 1) with ⟨h0, hn⟩ | ⟨k, r, h0, hlo, hk, hn⟩
  · rw [h0]
    exact .inl rfl
  · rw [h0]
    refine .inr ⟨k, rfl, Nat.le_trans ?_ hlo, hk.1⟩
    unfold fromIndex
    rw [if_neg (by omega)]
    omega
def entS : List (Str × Str) := [("lt", "<"), ("gt", ">"), ("amp", "&"), ("quot", "\"")]
def charS (z : Str) (p : Nat) : Str := ⟨#[z.cps.toList.getD p 0]⟩
def entN (z : Str) (p : Nat) : Str := if Txt.find3 z ";" (p : Int) ≥ 0 then cutS z (some ((p : Int) + 1)) (some (Txt.find3 z ";" (p : Int))) else ""
/-- entities put in -/
def weE (z : Str) : Nat → Nat → Str → Option Str
  | 0, _, f => some f
  | n + 1, p, f => if p < z.length then
      if charS z p ≠ "&" then weE z n (p + 1) (f ++ charS z p) else
        (aGet entS (entN z p)).bind fun s => weE z n ((Txt.find3 z ";" (p : Int)).toNat + 1) (f ++ s)
    else some f
theorem weE_end {z : Str} {p : Nat} {f : Str} (h : ¬ p < z.length) : ∀ n, weE z n p f = some f
  | 0 => rfl
  | n + 1 => if_neg h
theorem ent_len {z s : Str} (h : aGet entS z = some s) : s.length = 1 := by
  unfold aGet at h
  obtain ⟨p, hp, rfl⟩ := Option.map_eq_some_iff.mp h
  have hm := List.mem_of_find?_eq_some hp
  simp only [entS, List.mem_cons, List.not_mem_nil, or_false] at hm
  rcases hm with rfl | rfl | rfl | rfl <;> rfl
/-- enough is enough -/
theorem weE_more {z : Str} : ∀ n p f, p ≤ z.length → z.length ≤ n + p → ∀ m, n ≤ m → weE z m p f = weE z n p f
  | 0, p, f, hp, hn, m, hm => by
    rw [weE_end (by omega), weE_end (by omega)]
  | n + 1, p, f, hp, hn, m + 1, hm => by
    by_cases h : p < z.length
    · show (if p < z.length then _ else _) = (if p < z.length then _ else _)
      rw [if_pos h, if_pos h]
      by_cases h1 : charS z p ≠ "&"
      · rw [if_pos h1, if_pos h1]
        exact weE_more n (p + 1) _ h (by omega) m (by omega)
      · rw [if_neg h1, if_neg h1]
        cases hs : aGet entS (entN z p) with
        | none => rfl
        | some s =>
          have fa := find_at z ";" p hp
          have hb : Txt.find3 z ";" (p : Int) ≥ 0 := by
            rcases Int.lt_or_le (Txt.find3 z ";" (p : Int)) 0 with h2 | h2
            · have en : entN z p = "" := if_neg (by omega)
              rw [en] at hs
              cases hs
            · exact h2
          obtain ⟨k, ek, kp, kz⟩ : ∃ k : Nat, Txt.find3 z ";" (p : Int) = (k : Int) ∧ p ≤ k ∧ k + (";" : Str).length ≤ z.length := by
            rcases fa with e | e
            · omega
            · exact e
          have kz : k + 1 ≤ z.length := kz
          show weE z m _ _ = weE z n _ _
          rw [ek, Int.toNat_natCast]
          exact weE_more n (k + 1) _ kz (by omega) m (by omega)
    · rw [weE_end h, weE_end h]
  | n + 1, p, f, hp, hn, 0, hm => by omega
theorem weE_fuel {z : Str} {n m p : Nat} {f : Str} (hp : p ≤ z.length) (h1 : z.length ≤ n + p) (h2 : z.length ≤ m + p) : weE z n p f = weE z m p f := by
  rcases Nat.le_total n m with h | h
  · exact (weE_more n p f hp h1 m h).symm
  · exact weE_more m p f hp h2 n h
def withEnt (z : Str) : Option Str := weE z (z.length + 1) 0 ""
theorem ent_get (z : Str) : aGet entD z = (aGet entS z).map He.Dv.str := by
  unfold entD entS aGet
  simp only [List.find?_cons]
  by_cases h1 : ("lt" : Str) = z
  · simp [h1]
  · by_cases h2 : ("gt" : Str) = z
    · simp [h1, h2]
    · by_cases h3 : ("amp" : Str) = z
      · simp [h1, h2, h3]
      · by_cases h4 : ("quot" : Str) = z
        · simp [h1, h2, h3, h4]
        · simp [h1, h2, h3, h4]
end K05

open PySem PySem.Spec PyProof.Rows L2 Pr Dn
/-! a tree that is read: nodes by their numbers, the open ones -/
namespace K05
structure PN where
  tag : Option Str
  text : Str
  attrs : List (Str × Str)
  val : Str
  chk : Bool
  par : Option Nat
  kids : List Nat
deriving DecidableEq, Inhabited
structure PM where
  N : List PN
  opn : List Nat
deriving DecidableEq
def nod (m : PM) (i : Nat) : PN := m.N.getD i default
def tagOf (m : PM) (i : Nat) : Str := (nod m i).tag.getD ""
def lastO (m : PM) : Nat := m.opn.getLastD 0
def blocksL : List Str := ["html", "body", "div", "p", "ul", "ol", "li", "h1", "h2", "section", "form", "hr", "pre", "main"]
def rawL : List Str := ["script", "style"]
def rootM : PM := ⟨[⟨some "html", "", [], "", false, none, []⟩], [0]⟩
/-- a new node, the last child of pa -/
def pushF (m : PM) (pa : Nat) (n : PN) : PM := { m with N := m.N.set pa { nod m pa with kids := (nod m pa).kids ++ [m.N.length] } ++ [{ n with par := some pa }] }
def textN (t : Str) : PN := ⟨none, t, [], "", false, none, []⟩
def elemN (tag : Str) (fd : List (Str × Str)) : PN := ⟨some tag, "", fd, (aGet fd "value").getD "", (aGet fd "checked").isSome, none, []⟩
def addText (m : PM) (pa : Nat) (t : Str) : PM := pushF m pa (textN t)
def endT (z : Str) (p : Nat) : Nat := if Txt.find3 z "<" (p : Int) < 0 then z.length else (Txt.find3 z "<" (p : Int)).toNat
def textF (z : Str) (p : Nat) (m : PM) : Option (Nat × PM) := (withEnt (cutS z (some (p : Int)) (some (endT z p : Nat)))).map fun t => (endT z p, if Txt.stripChars t " \n" ≠ "" ∨ tagOf m (lastO m) ∉ blocksL then addText m (lastO m) t else m)
def closeP (m : PM) (tag : Str) : PM := if tag ∈ blocksL ∧ tagOf m (lastO m) = "p" then { m with opn := m.opn.dropLast } else m
def liPlace (m : PM) : Nat → Nat
  | 0 => 0
  | k + 1 => if tagOf m (m.opn.getD (k + 1) 0) ∈ (["li", "ul", "ol"] : List Str) then k + 1 else liPlace m k
def closeF (m : PM) (tag : Str) : PM := if tag = "li" then if tagOf (closeP m tag) ((closeP m tag).opn.getD (liPlace (closeP m tag) ((closeP m tag).opn.length - 1)) 0) = "li" then { closeP m tag with opn := (closeP m tag).opn.take (liPlace (closeP m tag) ((closeP m tag).opn.length - 1)) } else closeP m tag else closeP m tag
def attrE (z : Str) : Nat → Nat → List (Str × Str) → Option (List (Str × Str) × Nat)
  | 0, _, _ => none
  | n + 1, p, fd =>
    if hereS z p 1 = "" ∨ hereS z p 1 = ">" then (upP z ">" p).map fun r => (fd, r.2) else
    if nameP z p = p then none else
    if (aGet fd (cutS z (some (p : Int)) (some (nameP z p : Nat)))).isSome then none else
    if hereS z (nameP z p) 1 = "=" then
      if hereS z (nameP z p + 1) 1 ≠ "\"" then none else
      (upP z "\"" (nameP z p + 2)).bind fun r => (withEnt r.1).bind fun v => attrE z n (skipP z r.2) (fd ++ [(cutS z (some (p : Int)) (some (nameP z p : Nat)), v)])
    else attrE z n (skipP z (nameP z p)) (fd ++ [(cutS z (some (p : Int)) (some (nameP z p : Nat)), ("" : Str))])
def attrF (z : Str) (p : Nat) : Option (List (Str × Str) × Nat) := attrE z (z.length + 1) (skipP z p) []
def startG (z tag : Str) (fd : List (Str × Str)) (p2 : Nat) (m1 : PM) : Option (Nat × PM) :=
  if tag ∈ rawL then (upP z ((("</" : Str) ++ tag) ++ (">" : Str)) p2).map fun r => (r.2, if r.1 ≠ ("" : Str) then addText (pushF m1 (lastO m1) (elemN tag fd)) m1.N.length r.1 else pushF m1 (lastO m1) (elemN tag fd))
  else some (p2, if tag ∉ voids then { pushF m1 (lastO m1) (elemN tag fd) with opn := m1.opn ++ [m1.N.length] } else pushF m1 (lastO m1) (elemN tag fd))
def startF (z : Str) (p : Nat) (m : PM) : Option (Nat × PM) :=
  if nameP z (p + 1) = p + 1 then none else
  (attrF z (nameP z (p + 1))).bind fun r =>
    if cutS z (some ((p + 1 : Nat) : Int)) (some (nameP z (p + 1) : Nat)) = "html" then none else
    if (closeF m (cutS z (some ((p + 1 : Nat) : Int)) (some (nameP z (p + 1) : Nat)))).opn.length ≥ 60 then none else
    startG z (cutS z (some ((p + 1 : Nat) : Int)) (some (nameP z (p + 1) : Nat))) r.1 r.2 (closeF m (cutS z (some ((p + 1 : Nat) : Int)) (some (nameP z (p + 1) : Nat))))
def placesF (m : PM) (tag : Str) : List Nat := (List.range m.opn.length).filter fun k => decide (0 < k) && decide (tagOf m (m.opn.getD k 0) = tag)
def endF (z : Str) (p : Nat) (m : PM) : Option (Nat × PM) :=
  if nameP z (p + 2) = p + 2 then none else
  if hereS z (skipP z (nameP z (p + 2))) 1 ≠ ">" then none else
  if placesF m (cutS z (some ((p + 2 : Nat) : Int)) (some (nameP z (p + 2) : Nat))) = [] then none else
  some (skipP z (nameP z (p + 2)) + 1, { m with opn := m.opn.take ((placesF m (cutS z (some ((p + 2 : Nat) : Int)) (some (nameP z (p + 2) : Nat)))).getLastD 0) })
def stepF (z : Str) (p : Nat) (m : PM) : Option (Nat × PM) :=
  if hereS z p 4 = "<!--" then (upP z "-->" (p + 4)).map fun r => (r.2, m)
  else if hereS z p 2 = "</" then endF z p m
  else if hereS z p 1 = "<" then startF z p m
  else textF z p m
def buildE (z : Str) : Nat → Nat → PM → Option PM
  | 0, _, _ => none
  | n + 1, p, m => if hereS z p 1 = "" then some m else (stepF z p m).bind fun r => buildE z n r.1 r.2
def parseF (z : Str) : Option PM := buildE z (z.length + 1) 0 rootM
/-! how far it reads -/
theorem here_len {z s : Str} {p n : Nat} (h : hereS z p n = s) (hn : s.length = n) : p + n ≤ z.length ∨ n = 0 := by
  have e : (hereS z p n).length = n := by rw [h]; exact hn
  rw [here_eq] at e
  have e : ((z.cps.toList.drop p).take n).length = n := e
  rw [List.length_take, List.length_drop, Array.length_toList] at e
  have hz : z.cps.size = z.length := rfl
  omega
theorem up_at {z s t : Str} {p p' : Nat} (hp : p ≤ z.length) (h : upP z s p = some (t, p')) : p + s.length ≤ p' ∧ p' ≤ z.length := by
  unfold upP at h
  split at h
  · cases h
  · rename_i h0
    injection h with h
    injection h with _ h2
    rcases find_at z s p hp with e | ⟨k, e, h3, h4⟩
    · omega
    · rw [e, Int.toNat_natCast] at h2
      omega
theorem skip_at {z : Str} {p : Nat} (hp : p ≤ z.length) : p ≤ skipP z p ∧ skipP z p ≤ z.length := ⟨span_le _ _ _ _, span_max _ _ _ _ hp⟩
theorem name_at {z : Str} {p : Nat} (hp : p ≤ z.length) : p ≤ nameP z p ∧ nameP z p ≤ z.length := ⟨span_le _ _ _ _, span_max _ _ _ _ hp⟩
theorem end_at {z : Str} {p : Nat} (hp : p < z.length) (h : hereS z p 1 ≠ "<") : p < endT z p ∧ endT z p ≤ z.length := by
  unfold endT
  split
  · exact ⟨hp, Nat.le_refl _⟩
  · rename_i h0
    rcases PySem.StrLaws.find3_spec z 60 (p : Int) with ⟨e, _⟩ | ⟨k, e, h1, h2, h3, h4⟩
    · have e : Txt.find3 z "<" (p : Int) = -1 := e
      omega
    · have e : Txt.find3 z "<" (p : Int) = (k : Int) := e
      rw [e, Int.toNat_natCast]
      have hf : fromIndex z.length (p : Int) = p := by
        unfold fromIndex
        rw [if_neg (by omega)]
        omega
      rw [hf] at h1
      refine ⟨Nat.lt_of_le_of_ne h1 fun z' => h ?_, Nat.le_of_lt h2⟩
      subst z'
      have h5 := PySem.StrLaws.getElem?_of_getD h2 h3
      rw [here_eq, List.drop_eq_getElem_cons (by rw [Array.length_toList]; exact h2)]
      rw [List.getElem?_eq_getElem (by rw [Array.length_toList]; exact h2)] at h5
      injection h5 with h5
      rw [h5]
      rfl
end K05

open PySem PySem.Spec PyProof.Rows L2 Pr Dn
/-! the tree that is read, in the store -/
namespace K05
abbrev Tri := Addr × Addr × Addr
def ad (A : List Tri) (i : Nat) : Addr := (A.getD i (0, 0, 0)).1
@[reducible] def tagD (o : Option Str) : Dt := match o with
  | none => .non
  | some z => .str z
@[reducible] def parO (A : List Tri) (o : Option Nat) : Dt := match o with
  | none => .non
  | some i => .ref (ad A i)
def dkD (fd : List (Str × Str)) : List (Key × Dt) := fd.map fun p => ((Sum.inr p.1 : Key), Dt.str p.2)
@[reducible] def refsO (A : List Tri) (l : List Nat) : List Dt := l.map fun i => Dt.ref (ad A i)
@[reducible] def tbC (K : PySem.W.Frag) (sc dc op : Addr) : Cell := .ins (He.ga K "TreeBuilder") nm_TreeBuilder [.ref sc, .ref dc, .ref op]
@[reducible] def scC (K : PySem.W.Frag) (z : Str) (p : Nat) : Cell := .ins (He.ga K "Scanner") nm_Scanner [.str z, .int p]
structure Bld (K : PySem.W.Frag) (S0 S : Store) (tb sc dc dn op : Addr) (A : List Tri) (z : Str) (p : Nat) (m : PM) : Prop where
  htb : S tb = some (tbC K sc dc op)
  hsc : S sc = some (scC K z p)
  hdc : ∃ v, S dc = some (docC K dn (A.length : Nat) [.ref (ad A 0), .int v])
  hdn : ∃ L, S dn = some (.dic L) ∧ L.length ≤ A.length
  hop : S op = some (.lst (refsO A m.opn))
  len : A.length = m.N.length
  nds : ∀ i n a t c, m.N[i]? = some n → A[i]? = some (a, t, c) → S a = some (nodeC K (i : Nat) (tagD n.tag) (.str n.text) t c (parO A n.par) (.str n.val) (.bl n.chk)) ∧ S t = some (.dic (dkD n.attrs)) ∧ S c = some (.lst (refsO A n.kids))
  le : Le S0 S
  ftb : S0 tb = none
  fsc : S0 sc = none
  fdc : S0 dc = none
  fdn : S0 dn = none
  fop : S0 op = none
  fA : ∀ r ∈ A, S0 r.1 = none ∧ S0 r.2.1 = none ∧ S0 r.2.2 = none
  opc : op ∉ A.map (·.2.2)
  chn : (A.map (·.2.2)).Nodup
  dna : dn ∉ A.map (·.2.1)
structure Wf (m : PM) : Prop where
  root : m.opn[0]? = some 0
  nod0 : (nod m 0).par = none
  tag0 : (nod m 0).tag = some "html"
  chain : ∀ j a b, m.opn[j]? = some a → m.opn[j + 1]? = some b → (nod m b).par = some a
  lt : ∀ a ∈ m.opn, a < m.N.length
  tg : ∀ a ∈ m.opn, ∃ t, (nod m a).tag = some t ∧ t ∉ voids
  mx : m.opn.length ≤ 60
  kd : ∀ n ∈ m.N, n.kids.length ≤ m.N.length ∧ ∀ k ∈ n.kids, k < m.N.length
  pr : ∀ n ∈ m.N, ∀ k, n.par = some k → k < m.N.length
theorem ad_at {A : List Tri} {i : Nat} {a t c : Addr} (h : A[i]? = some (a, t, c)) : ad A i = a := by
  unfold ad
  rw [List.getD_eq_getElem?_getD, h]
  rfl
theorem ad_app {A : List Tri} {r : Tri} {i : Nat} (h : i < A.length) : ad (A ++ [r]) i = ad A i := by
  unfold ad
  rw [List.getD_eq_getElem?_getD, List.getD_eq_getElem?_getD, List.getElem?_append_left h]
theorem nod_at {m : PM} {i : Nat} {n : PN} (h : m.N[i]? = some n) : nod m i = n := by
  unfold nod
  rw [List.getD_eq_getElem?_getD, h]
  rfl
theorem nod_get {m : PM} {i : Nat} (h : i < m.N.length) : m.N[i]? = some (nod m i) := by
  unfold nod
  rw [List.getD_eq_getElem?_getD, List.getElem?_eq_getElem h]
  rfl
section
variable {K : PySem.W.Frag} {S0 S : Store} {tb sc dc dn op : Addr} {A : List Tri} {z : Str} {p : Nat} {m : PM}
theorem Bld.at (h : Bld K S0 S tb sc dc dn op A z p m) {i : Nat} (hi : i < m.N.length) : ∃ t c, A[i]? = some (ad A i, t, c) ∧ S (ad A i) = some (nodeC K (i : Nat) (tagD (nod m i).tag) (.str (nod m i).text) t c (parO A (nod m i).par) (.str (nod m i).val) (.bl (nod m i).chk)) ∧ S t = some (.dic (dkD (nod m i).attrs)) ∧ S c = some (.lst (refsO A (nod m i).kids)) := by
  obtain ⟨⟨a, t, c⟩, ha⟩ : ∃ r, A[i]? = some r := ⟨_, List.getElem?_eq_getElem (by rw [h.len]; exact hi)⟩
  obtain ⟨h1, h2, h3⟩ := h.nds i _ a t c (nod_get hi) ha
  rw [ad_at ha]
  exact ⟨t, c, ha, h1, h2, h3⟩
/-- the way up from an open node -/
theorem Bld.up (h : Bld K S0 S tb sc dc dn op A z p m) (w : Wf m) : ∀ j a, m.opn[j]? = some a → ∃ l : List Nat, Up K S (ad A a) (l.map (ad A)) ∧ l.length = j + 1 ∧ ∀ x ∈ l, x < m.N.length
  | 0, a, ha => by
    rw [w.root] at ha
    injection ha with ha
    subst ha
    obtain ⟨t, c, _, h1, _⟩ := h.at (w.lt 0 (List.mem_of_getElem? w.root))
    rw [w.nod0] at h1
    exact ⟨[0], .top h1, rfl, fun x hx => by rw [List.mem_singleton.mp hx]; exact w.lt 0 (List.mem_of_getElem? w.root)⟩
  | j + 1, b, hb => by
    obtain ⟨a, ha⟩ : ∃ a, m.opn[j]? = some a := ⟨_, List.getElem?_eq_getElem (Nat.lt_of_succ_lt (List.getElem?_eq_some_iff.mp hb).1)⟩
    obtain ⟨l, u, ll, hl⟩ := h.up w j a ha
    obtain ⟨t, c, _, h1, _⟩ := h.at (w.lt b (List.mem_of_getElem? hb))
    rw [w.chain j a b ha hb] at h1
    exact ⟨b :: l, .step h1 u, by rw [List.length_cons, ll], fun x hx => (List.mem_cons.mp hx).elim (fun e => by rw [e]; exact w.lt b (List.mem_of_getElem? hb)) (hl x)⟩
/-- the scanner goes on -/
theorem Bld.scan (h : Bld K S0 S tb sc dc dn op A z p m) (p' : Nat) : Bld K S0 (sput S sc (scC K z p')) tb sc dc dn op A z p' m := by
  have ne : ∀ x c, S x = some c → (∀ C nm l, c = .ins C nm l → l.length ≠ 2) → x ≠ sc := fun x c hx hn e => by
    rw [e, h.hsc] at hx
    injection hx with hx
    exact hn _ _ _ hx.symm rfl
  obtain ⟨v, hdc⟩ := h.hdc
  obtain ⟨L, hdn, hL⟩ := h.hdn
  refine ⟨by rw [sput_ne (ne _ _ h.htb (fun C nm l e => by cases e; exact Nat.ne_of_beq_eq_false rfl))]; exact h.htb, sput_same, ⟨v, by rw [sput_ne (ne _ _ hdc (fun C nm l e => by cases e; exact Nat.ne_of_beq_eq_false rfl))]; exact hdc⟩, ⟨L, by rw [sput_ne (ne _ _ hdn (fun C nm l e => by cases e))]; exact hdn, hL⟩, by rw [sput_ne (ne _ _ h.hop (fun C nm l e => by cases e))]; exact h.hop, h.len, fun i n a t c h1 h2 => ?_,
    fun x c hx => by rw [sput_ne (fun e => by rw [e, h.fsc] at hx; cases hx)]; exact h.le x c hx, h.ftb, h.fsc, h.fdc, h.fdn, h.fop, h.fA, h.opc, h.chn, h.dna⟩
  obtain ⟨e1, e2, e3⟩ := h.nds i n a t c h1 h2
  exact ⟨by rw [sput_ne (ne _ _ e1 (fun C nm l e => by cases e; exact Nat.ne_of_beq_eq_false rfl))]; exact e1, by rw [sput_ne (ne _ _ e2 (fun C nm l e => by cases e))]; exact e2, by rw [sput_ne (ne _ _ e3 (fun C nm l e => by cases e))]; exact e3⟩
/-- the open ones are changed in place -/
theorem Bld.opn (h : Bld K S0 S tb sc dc dn op A z p m) (o : List Nat) : Bld K S0 (sput S op (.lst (refsO A o))) tb sc dc dn op A z p { m with opn := o } := by
  have ne : ∀ x c, S x = some c → (∀ l, c ≠ .lst l) → x ≠ op := fun x c hx hn e => by
    rw [e, h.hop] at hx
    injection hx with hx
    exact hn _ hx.symm
  obtain ⟨v, hdc⟩ := h.hdc
  obtain ⟨L, hdn, hL⟩ := h.hdn
  refine ⟨by rw [sput_ne (ne _ _ h.htb (fun l e => by cases e))]; exact h.htb, by rw [sput_ne (ne _ _ h.hsc (fun l e => by cases e))]; exact h.hsc, ⟨v, by rw [sput_ne (ne _ _ hdc (fun l e => by cases e))]; exact hdc⟩, ⟨L, by rw [sput_ne (ne _ _ hdn (fun l e => by cases e))]; exact hdn, hL⟩, sput_same, h.len, fun i n a t c h1 h2 => ?_,
    fun x c hx => by rw [sput_ne (fun e => by rw [e, h.fop] at hx; cases hx)]; exact h.le x c hx, h.ftb, h.fsc, h.fdc, h.fdn, h.fop, h.fA, h.opc, h.chn, h.dna⟩
  obtain ⟨e1, e2, e3⟩ := h.nds i n a t c h1 h2
  exact ⟨by rw [sput_ne (ne _ _ e1 (fun l e => by cases e))]; exact e1, by rw [sput_ne (ne _ _ e2 (fun l e => by cases e))]; exact e2, by rw [sput_ne (fun e => h.opc (List.mem_map.mpr ⟨_, List.mem_of_getElem? h2, e⟩))]; exact e3⟩
/-- the open ones are a new list -/
theorem Bld.opnN (h : Bld K S0 S tb sc dc dn op A z p m) {q : Addr} (hq : S q = none) (o : List Nat) : Bld K S0 (sput (sput S q (.lst (refsO A o))) tb (tbC K sc dc q)) tb sc dc dn q A z p { m with opn := o } := by
  have nq : ∀ x c, S x = some c → x ≠ q := fun x c hx e => by rw [e, hq] at hx; cases hx
  have ne : ∀ x c, S x = some c → (∀ C nm l, c = .ins C nm l → l.length ≠ 3) → x ≠ tb := fun x c hx hn e => by
    rw [e, h.htb] at hx
    injection hx with hx
    exact hn _ _ _ hx.symm rfl
  have kp : ∀ x c, S x = some c → (∀ C nm l, c = .ins C nm l → l.length ≠ 3) → sput (sput S q (.lst (refsO A o))) tb (tbC K sc dc q) x = some c := fun x c hx hn => by rw [sput_ne (ne x c hx hn), sput_ne (nq x c hx)]; exact hx
  obtain ⟨v, hdc⟩ := h.hdc
  obtain ⟨L, hdn, hL⟩ := h.hdn
  have f0 : ∀ x, S x = none → S0 x = none := fun x hx => by
    cases e : S0 x with
    | none => rfl
    | some c => rw [h.le x c e] at hx; cases hx
  refine ⟨sput_same, kp _ _ h.hsc (fun C nm l e => by cases e; exact Nat.ne_of_beq_eq_false rfl), ⟨v, kp _ _ hdc (fun C nm l e => by cases e; exact Nat.ne_of_beq_eq_false rfl)⟩, ⟨L, kp _ _ hdn (fun C nm l e => by cases e), hL⟩, by rw [sput_ne (nq _ _ h.htb).symm, sput_same], h.len, fun i n a t c h1 h2 => ?_,
    fun x c hx => by rw [sput_ne (fun e => by rw [e, h.ftb] at hx; cases hx), sput_ne (nq x c (h.le x c hx))]; exact h.le x c hx, h.ftb, h.fsc, h.fdc, h.fdn, f0 q hq, h.fA, fun hm => ?_, h.chn, h.dna⟩
  · obtain ⟨e1, e2, e3⟩ := h.nds i n a t c h1 h2
    exact ⟨kp _ _ e1 (fun C nm l e => by cases e; exact Nat.ne_of_beq_eq_false rfl), kp _ _ e2 (fun C nm l e => by cases e), kp _ _ e3 (fun C nm l e => by cases e)⟩
  · obtain ⟨⟨a, t, c⟩, hr, e⟩ := List.mem_map.mp hm
    obtain ⟨i, hi⟩ := List.getElem?_of_mem hr
    have hl : i < m.N.length := by rw [← h.len]; exact (List.getElem?_eq_some_iff.mp hi).1
    obtain ⟨_, _, e3⟩ := h.nds i _ a t c (nod_get hl) hi
    exact nq _ _ e3 e
end
end K05

open PySem PySem.Spec PyProof.Rows L2 Pr Dn LamX

namespace K05

def cScI (K : PySem.W.Frag) : DSp := fun ds S q _ => ∃ m z, ds = [.ref m, .str z] ∧ S m = some (.ins (He.ga K "Scanner") nm_Scanner []) ∧ q .non (sput S m (scC K z 0))
def cHere (K : PySem.W.Frag) : DSp := fun ds S q _ => ∃ sc z p, ∃ n : Nat, ds = [.ref sc, .int n] ∧ S sc = some (scC K z p) ∧ q (.str (hereS z p n)) S
def cSkip (K : PySem.W.Frag) : DSp := fun ds S q _ => ∃ sc z p, ds = [.ref sc] ∧ S sc = some (scC K z p) ∧ q .non (sput S sc (scC K z (skipP z p)))
def cName (K : PySem.W.Frag) : DSp := fun ds S q e => ∃ sc z p, ds = [.ref sc] ∧ S sc = some (scC K z p) ∧ (nameP z p = p → e (He.ga K "MarkupError") S) ∧ (nameP z p ≠ p → q (.str (cutS z (some (p : Int)) (some (nameP z p : Nat)))) (sput S sc (scC K z (nameP z p))))
def cUp (K : PySem.W.Frag) : DSp := fun ds S q e => ∃ sc z p sign, ds = [.ref sc, .str sign] ∧ S sc = some (scC K z p) ∧ p ≤ z.length ∧ sign.length ≤ 100000 ∧ (upP z sign p = none → e (He.ga K "MarkupError") S) ∧ (∀ t p', upP z sign p = some (t, p') → q (.str t) (sput S sc (scC K z p')))
def cWith (K : PySem.W.Frag) : DSp := fun ds S q e => ∃ z, ds = [.str z] ∧ z.length ≤ 1000000 ∧ (withEnt z = none → e (He.ga K "MarkupError") S) ∧ (∀ t, withEnt z = some t → q (.str t) S)
section
variable {P : Program} {w : World} {K : PySem.W.Frag} {mg : Str → Option Value} {base : Heap}
theorem ok_Scanner (T : Tx K mg) {f : Addr} {fd : FuncData} (F : FunD K "__init__" "Scanner.__init__" (defArgs s_Scanner_init) (defBody s_Scanner_init) (defScope s_Scanner_init) [] [] f fd) : FnOk P w K mg base (L2.CX P w) 1 f fd ["self", "text"] (spD K (cScI K)) := by
  refine dfn 2 F sc_Scanner_init (fun ds S q e h => ?_) rfl (fun cdv A outer s H E e hr => ⟨_, (dss_cons (ds_fld rfl (fd_Scanner_text T) (dv (pv 0)) (dv (pv 1)))
  (dss_one (ds_fld rfl (fd_Scanner_place T) (dv (pv 0)) de_int))), fun ds S q h => ?_⟩)
  · obtain ⟨_, _, rfl, _⟩ := h
    rfl
  · obtain ⟨m, z, rfl, hm, h⟩ := h
    walk_at "go"
    simp only [sput_sput]
    exact h
theorem ok_here (T : Tx K mg) {f : Addr} {fd : FuncData} (F : FunD K "here" "Scanner.here" (defArgs s_Scanner_here) (defBody s_Scanner_here) (defScope s_Scanner_here) [.int 1] [] f fd) : FnOk P w K mg base (L2.CX P w) 1 f fd ["self", "many"] (spD K (cHere K)) := by
  refine dfn 2 F sc_Scanner_here (fun ds S q e h => ?_) rfl (fun cdv A outer s H E e hr => ⟨_, (dss_one (ds_ret (de_sl rfl (de_fld rfl (fd_Scanner_text T) (dv (pv 0))) (do_some (de_fld rfl (fd_Scanner_place T) (dv (pv 0)))) (do_some (de_op (od_add rfl) (de_fld rfl (fd_Scanner_place T) (dv (pv 0))) (dv (pv 1))))))), fun ds S q h => ?_⟩)
  · obtain ⟨_, _, _, _, rfl, _⟩ := h
    rfl
  · obtain ⟨sc, z, p, n, rfl, hm, h⟩ := h
    walk_at "go"
    exact h
theorem df_Scanner_here_1 {K : PySem.W.Frag} : Dfl K [.int 1] [.int 1] := fun G => ⟨_, _, rfl, rfl, rfl⟩
theorem ok_skip (T : Tx K mg) (m_Scanner_here_1 : MetX P w K mg base 1 (He.ga K "Scanner") "here" (spD K (cHere K)) [.int 1]) {f : Addr} {fd : FuncData} (F : FunD K "skip_blanks" "Scanner.skip_blanks" (defArgs s_Scanner_skip_blanks) (defBody s_Scanner_skip_blanks) (defScope s_Scanner_skip_blanks) [] [] f fd) : FnOk P w K mg base (L2.CX P w) 2 f fd ["self"] (spD K (cSkip K)) := by
  refine dfn 1 F sc_Scanner_skip_blanks (fun ds S q e h => ?_) rfl (fun cdv A outer s H E e hr => ⟨_, (dss_one (ds_while poX (PW.pt (dt_and (dt_cmp (od_ne rfl (hU_of hr)) (de_meth0 (nm := nm_Scanner) rfl m_Scanner_here_1 (by decide +kernel) (df_Scanner_here_1) hr (by decide) paX (dv (pv 0))) de_str) (pw_and1 (dt_cmp (od_in rfl (hW_of hr)) (de_meth0 (nm := nm_Scanner) rfl m_Scanner_here_1 (by decide +kernel) (df_Scanner_here_1) hr (by decide) paX (dv (pv 0))) de_str)))) (dss_one (ds_fldaug (K := K) rfl (fd_Scanner_place T) in_addD (dv (pv 0)) de_int)))), fun ds S q h => ?_⟩)
  · obtain ⟨_, _, _, rfl, _⟩ := h
    rfl
  · obtain ⟨sc, z, p, rfl, hm, h⟩ := h
    walk_at "go"
    refine ⟨fun m δ S' => ∃ p', m = z.length - p' ∧ skipP z p' = skipP z p ∧ δ = [some (.ref sc)] ∧ S' = sput S sc (scC K z p'), ⟨_, p, rfl, rfl, rfl, (sput_id hm).symm⟩, fun m δ S' hI => ?_⟩
    obtain ⟨p', rfl, es, rfl, rfl⟩ := hI
    walk_at "go"
    refine ⟨sc, z, p', 1, rfl, sput_same, ?_⟩
    walk_at "go"
    refine iftN (fun h0 => ?_) (fun h0 => ?_)
    · walk_at "go"
      refine ⟨sc, z, p', 1, rfl, sput_same, ?_⟩
      walk_at "go"
      refine ift_b (fun h1 => ?_) (fun h1 => ?_)
      · walk_at "go"
        rw [sput_sput]
        exact ⟨_, by have := here_lt h0; omega, p' + 1, rfl, by rw [← es]; exact (span_step h0 h1).symm, rfl, rfl⟩
      · walk_at "go"
        have e1 : skipP z p' = p' := span_stop fun z => by rw [show hasS blankS (hereS _ p' 1) = _ from h1] at z; cases z.2
        rw [← es, e1] at h
        exact h
    · walk_at "go"
      have e1 : skipP z p' = p' := span_stop fun z => z.1 h0
      rw [← es, e1] at h
      exact h
theorem ok_name (T : Tx K mg) (m_Scanner_here_1 : MetX P w K mg base 1 (He.ga K "Scanner") "here" (spD K (cHere K)) [.int 1]) {f : Addr} {fd : FuncData} (F : FunD K "read_name" "Scanner.read_name" (defArgs s_Scanner_read_name) (defBody s_Scanner_read_name) (defScope s_Scanner_read_name) [] [] f fd) : FnOk P w K mg base (L2.CX P w) 2 f fd ["self"] (spD K (cName K)) := by
  refine dfn 2 F sc_Scanner_read_name (fun ds S q e h => ?_) rfl (fun cdv A outer s H E e hr => ⟨_, (dss_cons (ds_set (i := 1) sc_Scanner_read_name.nd rfl (Or.inl rfl) (de_fld rfl (fd_Scanner_place T) (dv (pv 0))))
  (dss_cons (ds_while poX (PW.pt (dt_and (dt_cmp (od_ne rfl (hU_of hr)) (de_meth0 (nm := nm_Scanner) rfl m_Scanner_here_1 (by decide +kernel) (df_Scanner_here_1) hr (by decide) paX (dv (pv 0))) de_str) (pw_and1 (dt_cmp (od_in rfl (hW_of hr)) (de_meth0 (nm := nm_Scanner) rfl m_Scanner_here_1 (by decide +kernel) (df_Scanner_here_1) hr (by decide) paX (dv (pv 0))) (de_gcS rfl T.g_TAG_SIGNS))))) (dss_one (ds_fldaug (K := K) rfl (fd_Scanner_place T) in_addD (dv (pv 0)) de_int)))
  (dss_cons (ds_if (dt_cmp (od_eq rfl (hU_of hr)) (de_fld rfl (fd_Scanner_place T) (dv (pv 0))) (dv (pv 1))) (dss_one (dr_raise (C := He.ga K "MarkupError") PySem.F.excBase_ValueError T.x_MarkupError.1 T.g_MarkupError T.x_MarkupError.2.1 (raises_own T.x_MarkupError.2.2.1 T.x_MarkupError.2.2.2) rfl)) dss_nil)
  (dss_one (ds_ret (de_sl rfl (de_fld rfl (fd_Scanner_text T) (dv (pv 0))) (do_some (dv (pv 1))) (do_some (de_fld rfl (fd_Scanner_place T) (dv (pv 0)))))))))), fun ds S q h => ?_⟩)
  · obtain ⟨_, _, _, rfl, _⟩ := h
    rfl
  · obtain ⟨sc, z, p, rfl, hm, he, h⟩ := h
    have fin : ∀ p', nameP z p = p' → (p' = p → e (He.ga K "MarkupError") (sput S sc (scC K z p'))) ∧ (p' ≠ p → q (.str (cutS z (some (p : Int)) (some (p' : Int)))) (sput S sc (scC K z p'))) := fun p' e1 => by
      subst e1
      exact ⟨fun e2 => by rw [e2, sput_id hm]; exact he e2, h⟩
    walk_at "go"
    refine ⟨fun m δ S' => ∃ p', m = z.length - p' ∧ nameP z p' = nameP z p ∧ δ = [some (.ref sc), some (.int (p : Nat))] ∧ S' = sput S sc (scC K z p'), ⟨_, p, rfl, rfl, rfl, (sput_id hm).symm⟩, fun m δ S' hI => ?_⟩
    obtain ⟨p', rfl, es, rfl, rfl⟩ := hI
    walk_at "go"
    refine ⟨sc, z, p', 1, rfl, sput_same, ?_⟩
    walk_at "go"
    have stop : ¬ (hereS z p' 1 ≠ "" ∧ hasS tagS (hereS z p' 1) = true) → (p' = p → e (He.ga K "MarkupError") (sput S sc (scC K z p'))) ∧ (p' ≠ p → q (.str (cutS z (some (p : Int)) (some (p' : Int)))) (sput S sc (scC K z p'))) := fun n => fin p' (by rw [← es]; exact span_stop n)
    refine iftN (fun h0 => ?_) (fun h0 => ?_)
    · walk_at "go"
      refine ⟨sc, z, p', 1, rfl, sput_same, ?_⟩
      walk_at "go"
      refine ift_b (fun h1 => ?_) (fun h1 => ?_)
      · walk_at "go"
        rw [sput_sput]
        exact ⟨_, by have := here_lt h0; omega, p' + 1, rfl, by rw [← es]; exact (span_step h0 h1).symm, rfl, rfl⟩
      · obtain ⟨f1, f2⟩ := stop fun z => by rw [show hasS tagS (hereS _ p' 1) = _ from h1] at z; cases z.2
        walk_at "go"
        refine ift (fun h3 => ?_) (fun h3 => ?_)
        · walk_at "go"
          exact f1 (by omega)
        · walk_at "go"
          exact f2 (by omega)
    · obtain ⟨f1, f2⟩ := stop fun z => z.1 h0
      walk_at "go"
      refine ift (fun h3 => ?_) (fun h3 => ?_)
      · walk_at "go"
        exact f1 (by omega)
      · walk_at "go"
        exact f2 (by omega)
theorem ok_up (T : Tx K mg) {f : Addr} {fd : FuncData} (F : FunD K "up_to" "Scanner.up_to" (defArgs s_Scanner_up_to) (defBody s_Scanner_up_to) (defScope s_Scanner_up_to) [] [] f fd) : FnOk P w K mg base (L2.CX P w) 1 f fd ["self", "sign"] (spD K (cUp K)) := by
  refine dfn 4 F sc_Scanner_up_to (fun ds S q e h => ?_) rfl (fun cdv A outer s H E e hr => ⟨_, (dss_cons (ds_set (i := 2) sc_Scanner_up_to.nd rfl (Or.inl rfl) (de_bm rfl is_tx PySem.F.plainAttrs_str PySem.F.slot_str_find PySem.F.type_str_find md_find2 (de_fld rfl (fd_Scanner_text T) (dv (pv 0))) (da_cons (dv (pv 1)) (da_cons (de_fld rfl (fd_Scanner_place T) (dv (pv 0))) da_nil))))
  (dss_cons (ds_if (dt_cmp od_lt (dv (pv 2)) de_int) (dss_one (dr_raiseE (C := He.ga K "MarkupError") PySem.F.excBase_ValueError T.x_MarkupError.1 T.g_MarkupError T.x_MarkupError.2.1 (raises_own T.x_MarkupError.2.2.1 T.x_MarkupError.2.2.2) rfl (de_joined (.cons de_str (.cons (de_fmt (dv (pv 1))) .nil))))) dss_nil)
  (dss_cons (ds_set (i := 3) sc_Scanner_up_to.nd rfl (Or.inl rfl) (de_sl rfl (de_fld rfl (fd_Scanner_text T) (dv (pv 0))) (do_some (de_fld rfl (fd_Scanner_place T) (dv (pv 0)))) (do_some (dv (pv 2)))))
  (dss_cons (ds_fld rfl (fd_Scanner_place T) (dv (pv 0)) (de_op (od_add rfl) (dv (pv 2)) (de_callB (cd_len rfl) (by rfl) T.b_len (by decide +kernel) (da_cons (dv (pv 1)) da_nil))))
  (dss_one (ds_ret (dv (pv 3)))))))), fun ds S q h => ?_⟩)
  · obtain ⟨_, _, _, _, rfl, _⟩ := h
    rfl
  · obtain ⟨sc, z, p, sign, rfl, hm, hp, hs, he, h⟩ := h
    walk_at "go"
    refine ift (fun h0 => ?_) (fun h0 => ?_)
    · walk_at "go"
      refine ⟨Nat.le_of_lt (size6 (by rw [show (("" : Str) ++ "expected ").length = 9 from rfl]; omega)), ?_⟩
      walk_at "go"
      exact he (if_pos h0)
    · walk_at "go"
      have hh := h _ _ (if_neg h0)
      rw [show Txt.find3 z sign (p : Int) + (sign.length : Int) = (((Txt.find3 z sign (p : Int)).toNat + sign.length : Nat) : Int) by omega]
      exact hh
theorem ok_with (T : Tx K mg) (kd_ENTITIES : KdX K w (He.ga K "ENTITIES") entD) {f : Addr} {fd : FuncData} (F : FunD K "with_entities" "with_entities" (defArgs s_with_entities) (defBody s_with_entities) (defScope s_with_entities) [] [] f fd) : FnOk P w K mg base (L2.CX P w) 1 f fd ["text"] (spD K (cWith K)) := by
  refine dfn 5 F sc_with_entities (fun ds S q e h => ?_) rfl (fun cdv A outer s H E e hr => ⟨_, (dss_cons (ds_asg (de_tup (da_cons de_str (da_cons de_int da_nil))) (dg_tup (n := 2) rfl rfl (dgs_cons (dg_name (i := 1) sc_with_entities.nd rfl (Or.inl rfl)) (dgs_cons (dg_name (i := 2) sc_with_entities.nd rfl (Or.inl rfl)) dgs_nil))))
  (dss_cons (ds_while poX (dt_cmp od_lt (dv (pv 2)) (de_callB (cd_len rfl) (by rfl) T.b_len (by decide +kernel) (da_cons (dv (pv 0)) da_nil))) (dss_cons (ds_if (dt_cmp (od_ne rfl (hU_of hr)) (de_ix rfl (dv (pv 0)) (dv (pv 2))) de_str) (dss_cons (ds_aug (i := 1) sc_with_entities.nd rfl (Or.inl rfl) (de_ix rfl (dv (pv 0)) (dv (pv 2))) ip_addD)
  (dss_cons (ds_aug (i := 2) sc_with_entities.nd rfl (Or.inl rfl) de_int ip_addD)
  (dss_one ds_continue))) dss_nil)
  (dss_cons (ds_set (i := 3) sc_with_entities.nd rfl (Or.inl rfl) (de_bm rfl is_tx PySem.F.plainAttrs_str PySem.F.slot_str_find PySem.F.type_str_find md_find2 (dv (pv 0)) (da_cons de_str (da_cons (dv (pv 2)) da_nil))))
  (dss_cons (ds_set (i := 4) sc_with_entities.nd rfl (Or.inl rfl) (de_if (dt_cmp od_ge (dv (pv 3)) de_int) (de_sl rfl (dv (pv 0)) (do_some (de_op (od_add rfl) (dv (pv 2)) de_int)) (do_some (dv (pv 3)))) de_str))
  (dss_cons (ds_if (dt_cmp (od_notinK rfl kd_ENTITIES) (dv (pv 4)) (de_c (d := .ref _) (pe_glob (v := .ref _) rfl T.g_ENTITIES rfl) (fun _ => rfl))) (dss_one (dr_raise (C := He.ga K "MarkupError") PySem.F.excBase_ValueError T.x_MarkupError.1 T.g_MarkupError T.x_MarkupError.2.1 (raises_own T.x_MarkupError.2.2.1 T.x_MarkupError.2.2.2) rfl)) dss_nil)
  (dss_cons (ds_aug (i := 1) sc_with_entities.nd rfl (Or.inl rfl) (de_ixK rfl kd_ENTITIES (de_c (d := .ref _) (pe_glob (v := .ref _) rfl T.g_ENTITIES rfl) (fun _ => rfl)) (dv (pv 4))) ip_addD)
  (dss_one (ds_set (i := 2) sc_with_entities.nd rfl (Or.inl rfl) (de_op (od_add rfl) (dv (pv 3)) de_int)))))))))
  (dss_one (ds_ret (dv (pv 1)))))), fun ds S q h => ?_⟩)
  · obtain ⟨_, rfl, _⟩ := h
    rfl
  · obtain ⟨z, rfl, hz, he, h⟩ := h
    walk_at "go"
    have hzz : (z.length : Int) < 2 ^ 62 := by omega
    refine ⟨fun m δ S' => ∃ p' f u3 u4, m = z.length + 1 - p' ∧ p' ≤ z.length ∧ f.length ≤ p' ∧ weE z (z.length + 1 - p') p' f = withEnt z ∧ δ = [some (.str z), some (.str f), some (.int (p' : Nat)), u3, u4] ∧ S' = S, ⟨_, 0, "", none, none, rfl, Nat.zero_le _, Nat.le_refl _, rfl, rfl, rfl⟩, fun m δ S' hI => ?_⟩
    obtain ⟨p', f, u3, u4, rfl, hp, hf, es, rfl, rfl⟩ := hI
    walk_at "go"
    refine ift (fun h0 => ?_) (fun h0 => ?_)
    · have hlt : p' < z.length := by omega
      have hgt : z.cps.toList[p']? = some (z.cps.toList.getD p' 0) := by rw [List.getD_eq_getElem?_getD, List.getElem?_eq_getElem (by rw [Array.length_toList]; exact hlt)]; rfl
      have est : weE z (z.length + 1 - p') p' f = if charS z p' ≠ "&" then weE z (z.length - p') (p' + 1) (f ++ charS z p') else
        (aGet entS (entN z p')).bind fun s => weE z (z.length - p') ((Txt.find3 z ";" (p' : Int)).toNat + 1) (f ++ s) := by
          rw [show z.length + 1 - p' = (z.length - p') + 1 by omega]
          show (if p' < z.length then _ else _) = _
          rw [if_pos hlt]
      rw [est] at es
      walk_at "go"
      refine ⟨_, atI_nat hgt, ?_⟩
      walk_at "go"
      refine iftN (fun h1 => ?_) (fun h1 => ?_)
      · rw [if_pos (show charS z p' ≠ "&" from h1)] at es
        walk_at "go"
        refine ⟨_, atI_nat hgt, ?_⟩
        walk_at "go"
        refine ⟨Nat.le_of_lt (size6 (by show f.length + 1 ≤ _; omega)), ?_⟩
        walk_at "go"
        refine ⟨_, by omega, p' + 1, f ++ charS z p', u3, u4, rfl, hlt, by rw [app_len]; show f.length + 1 ≤ _; omega, ?_, rfl, rfl⟩
        rw [← es, show z.length + 1 - (p' + 1) = z.length - p' by omega]
      · rw [if_neg (show ¬ charS z p' ≠ "&" from fun n => n h1)] at es
        have fa := find_at z ";" p' hp
        walk_at "go"
        refine ift (fun h2 => ?_) (fun h2 => ?_)
        · obtain ⟨k, ek, kp, kz⟩ : ∃ k : Nat, Txt.find3 z ";" (p' : Int) = (k : Int) ∧ p' ≤ k ∧ k + (";" : Str).length ≤ z.length := by
            rcases fa with e | e
            · omega
            · exact e
          have kz : k + 1 ≤ z.length := kz
          have en : entN z p' = cutS z (some ((p' : Int) + 1)) (some (Txt.find3 z ";" (p' : Int))) := if_pos h2
          rw [en, ek] at es
          rw [ek]
          walk_at "go"
          rw [ent_get]
          cases hs : aGet entS (cutS z (some ((p' : Int) + 1)) (some (k : Int))) with
          | none =>
            rw [hs] at es
            walk_at "go"
            exact he es.symm
          | some s =>
            rw [hs] at es
            have es : weE z (z.length - p') (k + 1) (f ++ s) = withEnt z := es
            have sl : s.length = 1 := ent_len hs
            walk_at "go"
            refine ⟨rfl, .str s, by rw [ent_get, hs]; rfl, ?_⟩
            walk_at "go"
            refine ⟨_, by omega, k + 1, f ++ s, _, _, rfl, kz, by rw [app_len]; omega, ?_, rfl, rfl⟩
            rw [← es]
            exact weE_fuel (by omega) (by omega) (by omega)
        · have en : entN z p' = "" := if_neg h2
          rw [en] at es
          walk_at "go"
          rw [ent_get]
          walk_at "go"
          exact he es.symm
    · walk_at "go"
      rw [weE_end (by omega)] at es
      exact h _ es.symm
end
end K05

open PySem PySem.Spec PyProof.Rows L2 Pr Dn
namespace K05
theorem push_len {m : PM} {pa : Nat} {n : PN} : (pushF m pa n).N.length = m.N.length + 1 := by
  unfold pushF
  rw [List.length_append, List.length_set, List.length_singleton]
theorem push_get {m : PM} {pa : Nat} {n : PN} {i : Nat} (hi : i < m.N.length) : (pushF m pa n).N[i]? = some (if i = pa then { nod m pa with kids := (nod m pa).kids ++ [m.N.length] } else nod m i) := by
  show (m.N.set pa _ ++ [_])[i]? = _
  rw [List.getElem?_append_left (by rw [List.length_set]; exact hi), List.getElem?_set]
  by_cases h : pa = i
  · subst h
    rw [if_pos rfl, if_pos hi, if_pos rfl]
  · rw [if_neg h, if_neg (fun z => h z.symm), nod_get hi]
theorem push_new {m : PM} {pa : Nat} {n : PN} : (pushF m pa n).N[m.N.length]? = some { n with par := some pa } := by
  show (m.N.set pa _ ++ [_])[m.N.length]? = _
  rw [List.getElem?_append_right (by rw [List.length_set]; exact Nat.le_refl _), List.length_set, Nat.sub_self]
  rfl
theorem nod_push {m : PM} {pa : Nat} {n : PN} {i : Nat} (hi : i < m.N.length) : nod (pushF m pa n) i = if i = pa then { nod m pa with kids := (nod m pa).kids ++ [m.N.length] } else nod m i := nod_at (push_get hi)
theorem nod_push_par {m : PM} {pa : Nat} {n : PN} {i : Nat} (hi : i < m.N.length) : (nod (pushF m pa n) i).par = (nod m i).par := by
  rw [nod_push hi]
  split
  · rename_i h; rw [h]
  · rfl
theorem nod_push_tag {m : PM} {pa : Nat} {n : PN} {i : Nat} (hi : i < m.N.length) : (nod (pushF m pa n) i).tag = (nod m i).tag := by
  rw [nod_push hi]
  split
  · rename_i h; rw [h]
  · rfl
theorem Wf.zero {m : PM} (w : Wf m) : 0 < m.N.length := w.lt 0 (List.mem_of_getElem? w.root)
theorem nod_mem {m : PM} {i : Nat} (h : i < m.N.length) : nod m i ∈ m.N := List.mem_of_getElem? (nod_get h)
theorem push_mem {m : PM} {pa : Nat} {n x : PN} (hx : x ∈ (pushF m pa n).N) : x = { n with par := some pa } ∨ ∃ i, i < m.N.length ∧ x = if i = pa then { nod m pa with kids := (nod m pa).kids ++ [m.N.length] } else nod m i := by
  obtain ⟨i, hi⟩ := List.getElem?_of_mem hx
  have hl := (List.getElem?_eq_some_iff.mp hi).1
  rw [push_len] at hl
  by_cases h : i < m.N.length
  · rw [push_get h] at hi
    injection hi with hi
    exact .inr ⟨i, h, hi.symm⟩
  · have e : i = m.N.length := by omega
    subst e
    rw [push_new] at hi
    injection hi with hi
    exact .inl hi.symm
theorem Wf.push {m : PM} (w : Wf m) {pa : Nat} (hp : pa < m.N.length) {n : PN} (hk : n.kids = []) : Wf (pushF m pa n) := by
  refine ⟨w.root, by rw [nod_push_par w.zero]; exact w.nod0, by rw [nod_push_tag w.zero]; exact w.tag0, fun j a b ha hb => by rw [nod_push_par (w.lt b (List.mem_of_getElem? hb))]; exact w.chain j a b ha hb, fun a ha => by rw [push_len]; exact Nat.lt_succ_of_lt (w.lt a ha), fun a ha => by rw [nod_push_tag (w.lt a ha)]; exact w.tg a ha, w.mx, fun x hx => ?_, fun x hx k hk' => ?_⟩
  · rcases push_mem hx with rfl | ⟨i, hi, rfl⟩
    · exact ⟨by rw [show ({ n with par := some pa } : PN).kids = [] from hk]; exact Nat.zero_le _, fun k hk' => by rw [show ({ n with par := some pa } : PN).kids = [] from hk] at hk'; cases hk'⟩
    · rw [push_len]
      have h1 := w.kd _ (nod_mem hp)
      have h2 := w.kd _ (nod_mem hi)
      by_cases h : i = pa
      · rw [if_pos h]
        refine ⟨by show ((nod m pa).kids ++ [_]).length ≤ _; rw [List.length_append, List.length_singleton]; omega, fun k hk => ?_⟩
        rcases List.mem_append.mp (show k ∈ (nod m pa).kids ++ [m.N.length] from hk) with hk | hk
        · exact Nat.lt_succ_of_lt (h1.2 k hk)
        · rw [List.mem_singleton.mp hk]; exact Nat.lt_succ_self _
      · rw [if_neg h]
        exact ⟨by omega, fun k hk => Nat.lt_succ_of_lt (h2.2 k hk)⟩
  · rw [push_len]
    rcases push_mem hx with rfl | ⟨i, hi, rfl⟩
    · have hk' : some pa = some k := hk'
      injection hk' with hk'
      omega
    · by_cases h : i = pa
      · rw [if_pos h] at hk'
        exact Nat.lt_succ_of_lt (w.pr _ (nod_mem hp) k hk')
      · rw [if_neg h] at hk'
        exact Nat.lt_succ_of_lt (w.pr _ (nod_mem hi) k hk')
theorem Wf.take {m : PM} (w : Wf m) {k : Nat} (hk : 0 < k) : Wf { m with opn := m.opn.take k } := by
  have g : ∀ j a, (m.opn.take k)[j]? = some a → m.opn[j]? = some a := fun j a h => by
    rw [List.getElem?_take] at h
    split at h
    · exact h
    · cases h
  refine ⟨?_, w.nod0, w.tag0, fun j a b ha hb => w.chain j a b (g j a ha) (g _ b hb), fun a ha => w.lt a (List.mem_of_mem_take ha), fun a ha => w.tg a (List.mem_of_mem_take ha), ?_, w.kd, w.pr⟩
  · show (m.opn.take k)[0]? = some 0
    rw [List.getElem?_take, if_pos hk]
    exact w.root
  · show (m.opn.take k).length ≤ 60
    rw [List.length_take]
    have := w.mx
    omega
theorem Wf.last {m : PM} (w : Wf m) : m.opn[m.opn.length - 1]? = some (lastO m) ∧ 0 < m.opn.length := by
  have h0 : 0 < m.opn.length := (List.getElem?_eq_some_iff.mp w.root).1
  refine ⟨?_, h0⟩
  unfold lastO
  rw [List.getLastD_eq_getLast?, List.getLast?_eq_getElem?]
  rw [List.getElem?_eq_getElem (by omega)]
  rfl
theorem Wf.lastM {m : PM} (w : Wf m) : lastO m ∈ m.opn := List.mem_of_getElem? w.last.1
theorem Wf.open_ {m : PM} (w : Wf m) (h60 : m.opn.length < 60) {n : PN} {t : Str} (ht : n.tag = some t) (hv : t ∉ voids) (hk : n.kids = []) : Wf { pushF m (lastO m) n with opn := m.opn ++ [m.N.length] } := by
  have lp := w.lt _ w.lastM
  have w2 := w.push lp hk
  refine ⟨?_, w2.nod0, w2.tag0, fun j a b ha hb => ?_, fun a ha => ?_, fun a ha => ?_, ?_, w2.kd, w2.pr⟩
  · show (m.opn ++ _)[0]? = some 0
    rw [List.getElem?_append_left w.last.2]
    exact w.root
  · have hb : (m.opn ++ [m.N.length])[j + 1]? = some b := hb
    have ha : (m.opn ++ [m.N.length])[j]? = some a := ha
    by_cases h : j + 1 < m.opn.length
    · rw [List.getElem?_append_left h] at hb
      rw [List.getElem?_append_left (by omega)] at ha
      exact w2.chain j a b ha hb
    · have hl := (List.getElem?_eq_some_iff.mp hb).1
      rw [List.length_append, List.length_singleton] at hl
      have e : j + 1 = m.opn.length := by omega
      rw [e, List.getElem?_append_right (Nat.le_refl _), Nat.sub_self] at hb
      obtain rfl : m.N.length = b := by simpa using hb
      rw [List.getElem?_append_left (by omega), show j = m.opn.length - 1 by omega, w.last.1] at ha
      injection ha with ha
      rw [show nod { pushF m (lastO m) n with opn := m.opn ++ [m.N.length] } m.N.length = { n with par := some (lastO m) } from nod_at push_new, ha]
  · show a < (pushF m (lastO m) n).N.length
    rw [push_len]
    rcases List.mem_append.mp ha with ha | ha
    · exact Nat.lt_succ_of_lt (w.lt a ha)
    · rw [List.mem_singleton.mp ha]; exact Nat.lt_succ_self _
  · rcases List.mem_append.mp ha with ha | ha
    · exact w2.tg a ha
    · rw [List.mem_singleton.mp ha]
      exact ⟨t, by rw [show nod { pushF m (lastO m) n with opn := m.opn ++ [m.N.length] } m.N.length = { n with par := some (lastO m) } from nod_at push_new]; exact ht, hv⟩
  · show (m.opn ++ _).length ≤ 60
    rw [List.length_append, List.length_singleton]
    omega
theorem wf_root : Wf rootM := by
  refine ⟨rfl, rfl, rfl, fun j a b ha hb => (by cases j <;> cases hb), fun a ha => ?_, fun a ha => ?_, by decide, fun n hn => ?_, fun n hn k hk => ?_⟩
  · rw [List.mem_singleton.mp ha]; exact Nat.zero_lt_one
  · exact ⟨"html", by rw [List.mem_singleton.mp ha]; rfl, by decide⟩
  · rw [List.mem_singleton.mp hn]
    exact ⟨Nat.zero_le _, fun k hk => by cases hk⟩
  · rw [List.mem_singleton.mp hn] at hk
    cases hk
section
variable {K : PySem.W.Frag} {S0 S : Store} {tb sc dc dn op : Addr} {A : List Tri} {z : Str} {p : Nat} {m : PM}
theorem refs_app {A : List Tri} {r : Tri} {l : List Nat} (h : ∀ i ∈ l, i < A.length) : refsO (A ++ [r]) l = refsO A l := List.map_congr_left fun i hi => by rw [ad_app (h i hi)]
theorem par_app {A : List Tri} {r : Tri} {o : Option Nat} (h : ∀ i, o = some i → i < A.length) : parO (A ++ [r]) o = parO A o := by
  cases o with
  | none => rfl
  | some i => show Dt.ref _ = Dt.ref _; rw [ad_app (h i rfl)]
theorem Bld.push (h : Bld K S0 S tb sc dc dn op A z p m) (w : Wf m) {pa : Nat} (hp : pa < m.N.length) {a t c tp cp : Addr} {n : PN} {S' : Store} (hk : n.kids = []) (hA : A[pa]? = some (ad A pa, tp, cp))
    (fa : S a = none) (ft : S0 t = none) (dnt : dn ≠ t) (fc : S c = none)
    (e1 : S' a = some (nodeC K (m.N.length : Nat) (tagD n.tag) (.str n.text) t c (.ref (ad A pa)) (.str n.val) (.bl n.chk))) (e2 : S' t = some (.dic (dkD n.attrs))) (e3 : S' c = some (.lst []))
    (e4 : S' cp = some (.lst (refsO A (nod m pa).kids ++ [.ref a]))) (e5 : ∃ v, S' dc = some (docC K dn ((A.length : Int) + 1) [.ref (ad A 0), .int v])) (e6 : ∃ L, S' dn = some (.dic L) ∧ L.length ≤ A.length + 1)
    (kp : ∀ x cell, S x = some cell → x ≠ dc → x ≠ dn → x ≠ cp → S' x = some cell) : Bld K S0 S' tb sc dc dn op (A ++ [(a, t, c)]) z p (pushF m pa n) := by
  obtain ⟨v, hdc⟩ := h.hdc
  obtain ⟨L, hdn, hL⟩ := h.hdn
  obtain ⟨_, _, hcp⟩ := h.nds pa _ _ _ _ (nod_get hp) hA
  have len := h.len
  have kpI : ∀ x C nm l, S x = some (.ins C nm l) → l.length ≠ 4 → S' x = some (.ins C nm l) := fun x C nm l hx hn => kp x _ hx (fun e => by
    rw [e, hdc] at hx
    injection hx with hx
    injection hx with _ _ hx
    exact hn (by rw [← hx]; rfl)) (fun e => by rw [e, hdn] at hx; cases hx) (fun e => by rw [e, hcp] at hx; cases hx)
  have f0 : ∀ x, S x = none → S0 x = none := fun x hx => by
    cases e : S0 x with
    | none => rfl
    | some c => rw [h.le x c e] at hx; cases hx
  have ncp : ∀ i a' t' c', A[i]? = some (a', t', c') → c' = cp → i = pa := fun i a' t' c' hi e => by
    have q1 : (A.map (·.2.2))[i]? = some cp := by rw [List.getElem?_map, hi, ← e]; rfl
    have q2 : (A.map (·.2.2))[pa]? = some cp := by rw [List.getElem?_map, hA]; rfl
    exact (List.getElem?_inj (List.getElem?_eq_some_iff.mp q1).1 h.chn).mp (q1.trans q2.symm)
  have hopcp : op ≠ cp := fun e => h.opc (List.mem_map.mpr ⟨_, List.mem_of_getElem? hA, e.symm⟩)
  have lt0 : ∀ {l : List Nat}, (∀ i ∈ l, i < m.N.length) → ∀ i ∈ l, i < A.length := fun hl i hi => by rw [len]; exact hl i hi
  obtain ⟨v', e5⟩ := e5
  obtain ⟨L', e6, eL⟩ := e6
  refine ⟨kpI _ _ _ _ h.htb (Nat.ne_of_beq_eq_false rfl), kpI _ _ _ _ h.hsc (Nat.ne_of_beq_eq_false rfl), ⟨v', ?_⟩, ⟨L', e6, by rw [List.length_append, List.length_singleton]; exact eL⟩, ?_, by rw [List.length_append, List.length_singleton, push_len, len], fun i n' a' t' c' hn hA' => ?_, fun x cell hx => ?_, h.ftb, h.fsc, h.fdc, h.fdn, h.fop, fun r hr => ?_, fun hm => ?_, ?_, fun hm => ?_⟩
  · rw [ad_app (by rw [len]; exact w.zero), List.length_append, List.length_singleton]
    exact e5
  · show S' op = some (.lst (refsO (A ++ [(a, t, c)]) m.opn))
    rw [refs_app (lt0 w.lt)]
    exact kp _ _ h.hop (fun e => by have q := h.hop; rw [e, hdc] at q; cases q) (fun e => by have q := h.hop; rw [e, hdn] at q; cases q) hopcp
  · by_cases hi : i < m.N.length
    · rw [push_get hi] at hn
      injection hn with hn
      rw [List.getElem?_append_left (by rw [len]; exact hi)] at hA'
      obtain ⟨q1, q2, q3⟩ := h.nds i _ a' t' c' (nod_get hi) hA'
      have kd := w.kd _ (nod_mem hi)
      have pr := w.pr _ (nod_mem hi)
      have r2 : S' t' = some (.dic (dkD (nod m i).attrs)) := kp _ _ q2 (fun e => by rw [e, hdc] at q2; cases q2) (fun e => h.dna (List.mem_map.mpr ⟨_, List.mem_of_getElem? hA', e⟩)) (fun e => by rw [e, hcp] at q2; cases q2)
      have r1 := kpI _ _ _ _ q1 (Nat.ne_of_beq_eq_false rfl)
      have ep : parO (A ++ [(a, t, c)]) (nod m i).par = parO A (nod m i).par := par_app fun k hk => by rw [len]; exact pr k hk
      by_cases hip : i = pa
      · subst hip
        rw [if_pos rfl] at hn
        subst hn
        have hc : c' = cp := by
          rw [hA] at hA'
          injection hA' with hA'
          injection hA' with _ hA'
          injection hA' with _ hA'
          exact hA'.symm
        subst hc
        refine ⟨by rw [show ({ nod m i with kids := (nod m i).kids ++ [m.N.length] } : PN).par = (nod m i).par from rfl, ep]; exact r1, r2, ?_⟩
        show S' c' = some (.lst (refsO (A ++ [(a, t, c)]) ((nod m i).kids ++ [m.N.length])))
        rw [show refsO (A ++ [(a, t, c)]) ((nod m i).kids ++ [m.N.length]) = refsO A (nod m i).kids ++ [.ref a] from (by
          rw [show refsO (A ++ [(a, t, c)]) ((nod m i).kids ++ [m.N.length]) = refsO (A ++ [(a, t, c)]) (nod m i).kids ++ [.ref (ad (A ++ [(a, t, c)]) m.N.length)] from List.map_append, refs_app (lt0 kd.2), ← len, ad_at (show (A ++ [(a, t, c)])[A.length]? = some (a, t, c) by rw [List.getElem?_append_right (Nat.le_refl _), Nat.sub_self]; rfl)])]
        exact e4
      · rw [if_neg hip] at hn
        subst hn
        refine ⟨by rw [ep]; exact r1, r2, ?_⟩
        rw [refs_app (lt0 kd.2)]
        exact kp _ _ q3 (fun e => by rw [e, hdc] at q3; cases q3) (fun e => by rw [e, hdn] at q3; cases q3) (fun e => hip (ncp i a' t' c' hA' e))
    · have hl := (List.getElem?_eq_some_iff.mp hn).1
      rw [push_len] at hl
      have e : i = m.N.length := by omega
      subst e
      rw [push_new] at hn
      injection hn with hn
      rw [List.getElem?_append_right (by rw [len]; exact Nat.le_refl _), len, Nat.sub_self] at hA'
      have hA' : (a, t, c) = (a', t', c') := by simpa using hA'
      injection hA' with h1 h2
      injection h2 with h2 h3
      subst h1; subst h2; subst h3; subst hn
      refine ⟨?_, e2, ?_⟩
      · show S' a = some (nodeC K _ _ _ t c (.ref (ad (A ++ [(a, t, c)]) pa)) _ _)
        rw [ad_app (by rw [len]; exact hp)]
        exact e1
      · show S' c = some (.lst (refsO (A ++ [(a, t, c)]) n.kids))
        rw [hk]
        exact e3
  · have hs := h.le x cell hx
    exact kp x cell hs (fun e => by rw [e, h.fdc] at hx; cases hx) (fun e => by rw [e, h.fdn] at hx; cases hx) (fun e => by rw [e, (h.fA _ (List.mem_of_getElem? hA)).2.2] at hx; cases hx)
  · rcases List.mem_append.mp hr with hr | hr
    · exact h.fA r hr
    · rw [List.mem_singleton.mp hr]
      exact ⟨f0 a fa, ft, f0 c fc⟩
  · rw [List.map_append] at hm
    rcases List.mem_append.mp hm with hm | hm
    · exact h.opc hm
    · have e : op = c := List.mem_singleton.mp hm
      have q := h.hop
      rw [e, fc] at q
      cases q
  · rw [List.map_append]
    refine List.nodup_append.mpr ⟨h.chn, by simp, fun x hx y hy e => ?_⟩
    have hy : y = c := List.mem_singleton.mp hy
    obtain ⟨⟨a', t', c'⟩, hr, e'⟩ := List.mem_map.mp hx
    obtain ⟨i, hi⟩ := List.getElem?_of_mem hr
    have hl : i < m.N.length := by rw [← len]; exact (List.getElem?_eq_some_iff.mp hi).1
    obtain ⟨_, _, q3⟩ := h.nds i _ a' t' c' (nod_get hl) hi
    rw [show c' = c from e'.trans (e.trans hy), fc] at q3
    cases q3
  · rw [List.map_append] at hm
    rcases List.mem_append.mp hm with hm | hm
    · exact h.dna hm
    · exact dnt (List.mem_singleton.mp hm)
theorem Bld.place (h : Bld K S0 S tb sc dc dn op A z p m) (w : Wf m) {pa : Nat} (hp : pa < m.N.length) {tp : Str} (htag : (nod m pa).tag = some tp) (hv : tp ∉ voids) {l : List Nat} (u : Up K S (ad A pa) (l.map (ad A))) (ul : l.length ≤ 98) (ux : ∀ x ∈ l, x < m.N.length) (hN : m.N.length ≤ 1000000)
    {a t c : Addr} {n : PN} (hk : n.kids = []) {S1 : Store} (fa : S a = none) (ft : S0 t = none) (dnt : dn ≠ t) (fc : S c = none)
    (e1 : S1 a = some (nodeC K (m.N.length : Nat) (tagD n.tag) (.str n.text) t c .non (.str n.val) (.bl n.chk))) (e2 : S1 t = some (.dic (dkD n.attrs))) (e3 : S1 c = some (.lst []))
    (e5 : ∃ v, S1 dc = some (docC K dn ((A.length : Int) + 1) [.ref (ad A 0), .int v])) (e6 : ∃ L, S1 dn = some (.dic L) ∧ L.length ≤ A.length + 1)
    (kp : ∀ x cell, S x = some cell → x ≠ dc → x ≠ dn → S1 x = some cell) {go : Store → Prop} (hgo : ∀ S2, Bld K S0 S2 tb sc dc dn op (A ++ [(a, t, c)]) z p (pushF m pa n) → go S2) : PlP K dc (ad A pa) a S1 go := by
  obtain ⟨v, hdc⟩ := h.hdc
  obtain ⟨L, hdn, hL⟩ := h.hdn
  obtain ⟨v1, e5⟩ := e5
  obtain ⟨L1, e6, eL⟩ := e6
  have nodeK : ∀ x k' tag' tx' at' ch' p' v' c', S x = some (nodeC K k' tag' tx' at' ch' p' v' c') → S1 x = some (nodeC K k' tag' tx' at' ch' p' v' c') := fun x k' tag' tx' at' ch' p' v' c' hx => kp x _ hx (fun e => by
    rw [e, hdc] at hx
    injection hx with hx
    injection hx with _ _ hx
    exact absurd (congrArg List.length hx) (Nat.ne_of_beq_eq_false rfl)) (fun e => by rw [e, hdn] at hx; cases hx)
  obtain ⟨t0, c0, hA, q1, q2, q3⟩ := h.at hp
  rw [htag] at q1
  have kd := w.kd _ (nod_mem hp)
  have c01 : S1 c0 = _ := kp _ _ q3 (fun e => by rw [e, hdc] at q3; cases q3) (fun e => by rw [e, hdn] at q3; cases q3)
  have u1 : Up K S1 (ad A pa) (l.map (ad A)) := u.le fun b hb cell hc => by
    obtain ⟨x, hx, rfl⟩ := List.mem_map.mp hb
    obtain ⟨_, _, _, g1, _⟩ := h.at (ux x hx)
    rw [g1] at hc
    injection hc with hc
    rw [← hc]
    exact nodeK _ _ _ _ _ _ _ _ _ g1
  refine ⟨_, tp, _, t0, c0, _, _, _, _, _, _, t, c, _, _, _, l.map (ad A), dn, _, _, v1, nodeK _ _ _ _ _ _ _ _ _ q1, hv, u1, by rw [List.length_map]; exact ul, fun x hx k' tag' tx' at' ch' par' v' c' e => ?_, e1, ?_, e3, c01, ?_, e5, fun S2 g1 g2 g3 g4 => ?_⟩
  · obtain ⟨i, hi, rfl⟩ := List.mem_map.mp hx
    have hl := ux i hi
    obtain ⟨_, _, _, g1, _⟩ := h.at hl
    rw [nodeK _ _ _ _ _ _ _ _ _ g1] at e
    injection e with e
    injection e with _ _ e
    injection e with e _
    injection e with e
    omega
  · have := w.zero
    omega
  · rw [List.length_map]
    exact Nat.le_trans kd.1 hN
  · have na : ∀ x cell, S x = some cell → x ≠ a := fun x cell hx e => by rw [e, fa] at hx; cases hx
    refine hgo S2 (h.push w hp hk hA fa ft dnt fc g1 (g4 t _ (fun e => by rw [e, e1] at e2; cases e2) (fun e => by rw [e, c01] at e2; cases e2) (fun e => by rw [e, e5] at e2; cases e2) e2) (g4 c _ (fun e => by rw [e, e1] at e3; cases e3) (fun e => by rw [e, q3] at fc; cases fc) (fun e => by rw [e, e5] at e3; cases e3) e3) g2 ⟨_, g3⟩ ⟨L1, g4 dn _ (na _ _ hdn) (fun e => by rw [e, q3] at hdn; cases hdn) (fun e => by rw [e, hdc] at hdn; cases hdn) e6, eL⟩ fun x cell hx n1 n2 n3 => g4 x cell (na x cell hx) n3 n1 (kp x cell hx n1 n2))
end
end K05

open PySem PySem.Spec PyProof.Rows L2 Pr Dn LamX

namespace K05
theorem dk_get {fd : List (Str × Str)} {k : Str} : kGet (dkD fd) (Sum.inr k : Key) = (aGet fd k).map Dt.str := by
  unfold kGet aGet dkD
  induction fd with
  | nil => rfl
  | cons a f ih =>
    rw [List.map_cons, List.find?_cons, List.find?_cons]
    by_cases h : a.1 = k
    · simp [h]
    · have : ¬ ((Sum.inr a.1 : Key) = Sum.inr k) := fun z => h (Sum.inr.inj z)
      rw [decide_eq_false this, decide_eq_false h]
      exact ih
def cAttr (K : PySem.W.Frag) : DSp := fun ds S q _ => ∃ a nm k tag tx t c par vl ck fd, ds = [.ref a, .str nm] ∧ S a = some (nodeC K k tag tx t c par vl ck) ∧ S t = some (.dic (dkD fd)) ∧ q (oS (aGet fd nm)) S
def cState (K : PySem.W.Frag) : DSp := fun ds S q _ => ∃ a k tag tx t c par vl ck fd, ds = [.ref a] ∧ S a = some (nodeC K k tag tx t c par vl ck) ∧ S t = some (.dic (dkD fd)) ∧ q .non (sput S a (nodeC K k tag tx t c par (.str ((aGet fd "value").getD "")) (.bl (aGet fd "checked").isSome)))
def cTB (K : PySem.W.Frag) : DSp := fun ds S q _ => ∃ tb z S0, ds = [.ref tb, .str z] ∧ S tb = some (.ins (He.ga K "TreeBuilder") nm_TreeBuilder []) ∧ S0 tb = none ∧ Le S0 S ∧ ∀ S' sc dc dn op A, Bld K S0 S' tb sc dc dn op A z 0 rootM → q .non S'
section
variable {P : Program} {w : World} {K : PySem.W.Frag} {mg : Str → Option Value} {base : Heap}
theorem ok_attribute (T : Tx K mg) {f : Addr} {fd : FuncData} (F : FunD K "attribute" "Node.attribute" (defArgs s_Node_attribute) (defBody s_Node_attribute) (defScope s_Node_attribute) [] [] f fd) : FnOk P w K mg base (L2.CX P w) 1 f fd ["self", "name"] (spD K (cAttr K)) := by
  refine dfn 2 F sc_Node_attribute (fun ds S q e h => ?_) rfl (fun cdv A outer s H E e hr => ⟨_, (dss_one (ds_ret (de_dget1 (hu_of hr) (de_fld rfl (fd_Node_attributes T) (dv (pv 0))) (dv (pv 1)) ⟨by rfl, by rfl, by rfl, by rfl⟩))), fun ds S q h => ?_⟩)
  · obtain ⟨_, _, _, _, _, _, _, _, _, _, _, rfl, _⟩ := h
    rfl
  · obtain ⟨a, nm, k, tag, tx, t, c, par, vl, ck, fd', rfl, ha, ht, h⟩ := h
    walk_at "go"
    rw [dk_get]
    cases hg : aGet fd' nm with
    | none => rw [hg] at h; exact h
    | some v => rw [hg] at h; exact h
set_option hygiene false in
local macro_rules | `(tactic| walk_at "ck") => `(tactic| (
  walk_at "go"
  refine ⟨a, "checked", k, tag, tx, t, c, par, _, ck, fd', rfl, sput_same, (by rw [sput_ne nta]; exact ht), ?_⟩
  cases hc : aGet fd' "checked" with
  | none =>
    rw [hc] at h
    walk_at "go"
    rw [sput_sput]
    exact h
  | some y =>
    rw [hc] at h
    walk_at "go"
    rw [sput_sput]
    exact h))
theorem ok_state (T : Tx K mg) (m_Node_attribute : MetX P w K mg base 1 (He.ga K "Node") "attribute" (spD K (cAttr K)) []) {f : Addr} {fd : FuncData} (F : FunD K "start_state" "start_state" (defArgs s_start_state) (defBody s_start_state) (defScope s_start_state) [] [] f fd) : FnOk P w K mg base (L2.CX P w) 2 f fd ["node"] (spD K (cState K)) := by
  refine dfn 1 F sc_start_state (fun ds S q e h => ?_) rfl (fun cdv A outer s H E e hr => ⟨_, (dss_cons (ds_fld rfl (fd_Node_value T) (dv (pv 0)) (de_or rfl (de_meth (nm := nm_Node) rfl m_Node_attribute (by decide +kernel) dfl_nil hr (by decide) paX (dv (pv 0)) (da_cons de_str da_nil)) (pe_one de_str)))
  (dss_one (ds_fld rfl (fd_Node_checked T) (dv (pv 0)) (de_cmp od_isNot (de_meth (nm := nm_Node) rfl m_Node_attribute (by decide +kernel) dfl_nil hr (by decide) paX (dv (pv 0)) (da_cons de_str da_nil)) de_non)))), fun ds S q h => ?_⟩)
  · obtain ⟨_, _, _, _, _, _, _, _, _, _, rfl, _⟩ := h
    rfl
  · obtain ⟨a, k, tag, tx, t, c, par, vl, ck, fd', rfl, ha, ht, h⟩ := h
    have nta : t ≠ a := fun z => by rw [z, ha] at ht; cases ht
    walk_at "go"
    refine ⟨a, "value", k, tag, tx, t, c, par, vl, ck, fd', rfl, ha, ht, ?_⟩
    cases hv : aGet fd' "value" with
    | none =>
      rw [hv] at h
      walk_at "ck"
    | some v =>
      rw [hv] at h
      walk_at "go"
      refine iftN (fun h0 => ?_) (fun h0 => ?_)
      · walk_at "ck"
      · subst h0
        walk_at "ck"
theorem ok_tb (T : Tx K mg) (k_Scanner : MakX P w K mg base 1 "Scanner" (He.ga K "Scanner") (spD K (cScI K)) []) (k_Document : MakX P w K mg base 4 "Document" (He.ga K "Document") (spD K (cDoc K)) []) {f : Addr} {fd : FuncData} (F : FunD K "__init__" "TreeBuilder.__init__" (defArgs s_TreeBuilder_init) (defBody s_TreeBuilder_init) (defScope s_TreeBuilder_init) [] [] f fd) : FnOk P w K mg base (L2.CX P w) 6 f fd ["self", "text"] (spD K (cTB K)) := by
  refine dfn 2 F sc_TreeBuilder_init (fun ds S q e h => ?_) rfl (fun cdv A outer s H E e hr => ⟨_, (dss_cons (ds_fld rfl (fd_TreeBuilder_scanner T) (dv (pv 0)) (de_make (nm := nm_Scanner) rfl k_Scanner dfl_nil hr (by decide) rfl paX (da_cons (dv (pv 1)) da_nil)))
  (dss_cons (ds_fld rfl (fd_TreeBuilder_document T) (dv (pv 0)) (de_make0 (nm := nm_Document) rfl k_Document dfl_nil hr (by decide) rfl paX))
  (dss_one (ds_fld rfl (fd_TreeBuilder_open_nodes T) (dv (pv 0)) (de_lstO (da_cons (de_fld rfl (fd_Document_root T) (de_fld rfl (fd_TreeBuilder_document T) (dv (pv 0)))) da_nil)))))), fun ds S q h => ?_⟩)
  · obtain ⟨_, _, _, rfl, _⟩ := h
    rfl
  · obtain ⟨tb, z, S0, rfl, htb, f0, le0, h⟩ := h
    have ntb : ∀ x c, S0 x = some c → x ≠ tb := fun x c hx e => by rw [e, f0] at hx; cases hx
    have f1 : ∀ {S1 : Store}, Le S0 S1 → ∀ {x : Addr}, S1 x = none → S0 x = none := fun {S1} le {x} hx => by
      cases e : S0 x with
      | none => rfl
      | some c => rw [le x c e] at hx; cases hx
    walk_at "go"
    intro sc hsc
    have nst : sc ≠ tb := fun e => by rw [e, htb] at hsc; cases hsc
    refine ⟨sc, z, rfl, sput_same, ⟨rfl, ?_⟩⟩
    rw [sput_sput]
    walk_at "go"
    intro dc hdc
    obtain ⟨ndt, hdc⟩ := sput_free hdc
    obtain ⟨nds, hdc⟩ := sput_free hdc
    refine ⟨dc, rfl, sput_same, fun dn m at_ ch L S1 hdn hm hch hat nda h0 h1 h2 hL h3 h4 le1 => ⟨rfl, ?_⟩⟩
    obtain ⟨_, hdn⟩ := sput_free hdn
    obtain ⟨ndnt, hdn⟩ := sput_free hdn
    obtain ⟨_, hdn⟩ := sput_free hdn
    obtain ⟨_, hm⟩ := sput_free hm
    obtain ⟨nmt, hm⟩ := sput_free hm
    obtain ⟨_, hm⟩ := sput_free hm
    obtain ⟨_, hch⟩ := sput_free hch
    obtain ⟨nct, hch⟩ := sput_free hch
    obtain ⟨_, hch⟩ := sput_free hch
    obtain ⟨_, hat⟩ := sput_free hat
    obtain ⟨nat, hat⟩ := sput_free hat
    obtain ⟨_, hat⟩ := sput_free hat
    have htb1 : S1 tb = some (.ins (He.ga K "TreeBuilder") nm_TreeBuilder [.ref sc]) := le1 tb _ ndt.symm (by rw [sput_ne ndt.symm, sput_same])
    have hsc1 : S1 sc = some (scC K z 0) := le1 sc _ nds.symm (by rw [sput_ne nds.symm, sput_ne nst, sput_same])
    have le2 : ∀ x c, S0 x = some c → S1 x = some c := fun x c hx => le1 x c (fun e => by rw [e, f1 le0 hdc] at hx; cases hx) (by rw [sput_ne (fun e => by rw [e, f1 le0 hdc] at hx; cases hx), sput_ne (ntb x c hx), sput_ne (fun e => by rw [e, f1 le0 hsc] at hx; cases hx)]; exact le0 x c hx)
    walk_at "go"
    intro op hop
    obtain ⟨not_, hop⟩ := sput_free hop
    have nop : ∀ x c, S1 x = some c → x ≠ op := fun x c hx e => by rw [e, hop] at hx; cases hx
    walk_at "go"
    refine h _ sc dc dn op [(m, at_, ch)] ?_
    refine ⟨sput_same, by rw [sput_ne nst, sput_ne (nop _ _ hsc1), sput_ne nst]; exact hsc1, ⟨0, by rw [sput_ne ndt, sput_ne (nop _ _ h1), sput_ne ndt]; exact h1⟩, ⟨L, by rw [sput_ne ndnt, sput_ne (nop _ _ h2), sput_ne ndnt]; exact h2, hL⟩, by rw [sput_ne not_, sput_same]; rfl, rfl, fun i n a t c hn hA => ?_, fun x c hx => ?_, f0, f1 le0 hsc, f1 le0 hdc, f1 le0 hdn, f1 (fun x c hx => le2 x c hx) hop, fun r hr => ?_, fun hm => ?_, by simp, fun hm => nda (List.mem_singleton.mp hm)⟩
    · have hi : i = 0 := by
        have := (List.getElem?_eq_some_iff.mp hA).1
        rw [List.length_singleton] at this
        omega
      subst hi
      have hn : _ = n := Option.some.inj hn
      have hA : (m, at_, ch) = (a, t, c) := Option.some.inj hA
      injection hA with e1 e2
      injection e2 with e2 e3
      subst e1; subst e2; subst e3; subst hn
      exact ⟨by rw [sput_ne nmt, sput_ne (nop _ _ h3), sput_ne nmt]; exact h3, by rw [sput_ne nat, sput_ne (nop _ _ h0), sput_ne nat]; exact h0, by rw [sput_ne nct, sput_ne (nop _ _ h4), sput_ne nct]; exact h4⟩
    · have := le2 x c hx
      rw [sput_ne (ntb x c hx), sput_ne (nop x c this), sput_ne (ntb x c hx)]
      exact this
    · rw [List.mem_singleton.mp hr]
      exact ⟨f1 le0 hm, f1 le0 hat, f1 le0 hch⟩
    · have e : op = ch := List.mem_singleton.mp hm
      exact nop _ _ h4 e.symm
end
end K05

open PySem PySem.Spec PyProof.Rows L2 Pr Dn LamX

namespace K05
/-- what a method of the builder is given -/
structure Bs (K : PySem.W.Frag) (S0 S : Store) (tb sc dc dn op : Addr) (A : List Tri) (z : Str) (p : Nat) (m : PM) : Prop where
  b : Bld K S0 S tb sc dc dn op A z p m
  w : Wf m
  n1 : m.N.length ≤ p + 1
  pz : p ≤ z.length
  zl : z.length ≤ 900000
def cStep (K : PySem.W.Frag) (F : Str → Nat → PM → Option (Nat × PM)) : DSp := fun ds S q e => ∃ S0 tb sc dc dn op A z p m, ds = [.ref tb] ∧ Bs K S0 S tb sc dc dn op A z p m ∧ S0 (He.cT K ("Document", some "place_before")).2 = some .gtb ∧ (F z p m = none → ∀ S', Le S0 S' → e (He.ga K "MarkupError") S') ∧ ∀ p' m', F z p m = some (p', m') → ∀ S' op' A', Bld K S0 S' tb sc dc dn op' A' z p' m' → q .non S'
theorem atI_last {l : List Dt} {x : Dt} (h : l[l.length - 1]? = some x) (h0 : 0 < l.length) : atI l (-1) = some x := by
  unfold atI
  rw [show ixN l.length (-1) = some (l.length - 1) by
    unfold ixN
    simp
    omega]
  exact h
theorem cut_len {z : Str} {i j : Nat} (h : i ≤ j) : (cutS z (some (i : Int)) (some (j : Int))).length ≤ z.length := by
  rw [cut_nat h]
  show ((z.cps.toList.drop i).take (j - i)).toArray.size ≤ z.length
  rw [List.size_toArray, List.length_take, List.length_drop, Array.length_toList]
  have hz : z.cps.size = z.length := rfl
  omega
theorem Bld.last {K : PySem.W.Frag} {S0 S : Store} {tb sc dc dn op : Addr} {A : List Tri} {z : Str} {p : Nat} {m : PM} (h : Bld K S0 S tb sc dc dn op A z p m) (w : Wf m) : atI (refsO A m.opn) (-1) = some (.ref (ad A (lastO m))) ∧ ∃ t, (nod m (lastO m)).tag = some t ∧ tagOf m (lastO m) = t ∧ t ∉ voids := by
  refine ⟨atI_last (by rw [List.length_map, List.getElem?_map, w.last.1]; rfl) (by rw [List.length_map]; exact w.last.2), ?_⟩
  obtain ⟨t, ht, hv⟩ := w.tg _ w.lastM
  exact ⟨t, ht, by unfold tagOf; rw [ht]; rfl, hv⟩
theorem Bld.f0 {K : PySem.W.Frag} {S0 S : Store} {tb sc dc dn op : Addr} {A : List Tri} {z : Str} {p : Nat} {m : PM} (h : Bld K S0 S tb sc dc dn op A z p m) {x : Addr} (hx : S x = none) : S0 x = none := by
  cases e : S0 x with
  | none => rfl
  | some c => rw [h.le x c e] at hx; cases hx
theorem endT_le {z : Str} {p : Nat} (hp : p ≤ z.length) : p ≤ endT z p ∧ endT z p ≤ z.length := by
  unfold endT
  split
  · exact ⟨hp, Nat.le_refl _⟩
  · rcases find_at z "<" p hp with e | ⟨k, e, h1, h2⟩
    · omega
    · rw [e, Int.toNat_natCast]
      omega
section
variable {P : Program} {w : World} {K : PySem.W.Frag} {mg : Str → Option Value} {base : Heap}
set_option hygiene false in
local macro_rules | `(tactic| walk_at "ap") => `(tactic| (
  walk_at "go"
  refine ⟨_, b1.last bs.w |>.1, ?_⟩
  walk_at "go"
  refine ⟨dc, dn, _, _, L, _, _, rfl, hdc1, hdn1, by rw [b1.len] at hL; have := bs.n1; have := bs.pz; have := bs.zl; omega, fun a t c S2 fa fc nca ft nta ntc e2 e1 e3 e5 e6 kp => ?_⟩
  walk_at "go"
  obtain ⟨l, u, ll, ux⟩ := b1.up bs.w (m.opn.length - 1) (lastO m) bs.w.last.1
  have mx := bs.w.mx
  have zl := bs.zl
  have n1 := bs.n1
  have pz := bs.pz
  refine ⟨dc, _, a, rfl, kp _ _ (fun z => by rw [z, b1.fdc] at hT0; cases hT0) (fun z => by rw [z, b1.fdn] at hT0; cases hT0) (b1.le _ _ hT0), b1.place bs.w (bs.w.lt _ bs.w.lastM) htl hvl u (by omega) ux (by omega) (n := textN tx) rfl fa (b1.f0 ft) (fun z => by rw [← z, hdn1] at ft; cases ft) fc (by rw [← b1.len]; exact e1) e2 e3 ⟨v, e5⟩ ⟨_, e6, Nat.le_trans (kPut_len _ _ _) (Nat.succ_le_succ hL)⟩ (fun x cell hx n1 n2 => kp x cell n1 n2 hx) fun S3 b3 => ?_⟩
  exact hh S3 op _ b3))
set_option hygiene false in
local macro_rules | `(tactic| walk_at "tx") => `(tactic| (
  have el : p ≤ endT z p ∧ endT z p ≤ z.length := endT_le bs.pz
  refine ⟨_, rfl, Nat.le_trans (cut_len el.1) (by have := bs.zl; omega), fun hw => he (by unfold textF; rw [hw]; rfl) S b.le, fun tx ht => ?_⟩
  have hh := h (endT z p) _ (by unfold textF; rw [ht]; rfl)
  have b1 := b.scan (endT z p)
  walk_at "go"
  generalize sput S sc (scC K z (endT z p)) = S1 at b1 ⊢
  have hop1 := b1.hop
  have htb1 := b1.htb
  obtain ⟨v, hdc1⟩ := b1.hdc
  obtain ⟨L, hdn1, hL⟩ := b1.hdn
  obtain ⟨tl, htl, htg, hvl⟩ := (b1.last bs.w).2
  obtain ⟨tt, ct, hAt, hlt, _⟩ := b1.at (bs.w.lt _ bs.w.lastM)
  rw [htl, show tagD (some tl) = .str tl from rfl] at hlt
  refine iftN (fun h1 => ?_) (fun h1 => ?_)
  · rw [if_pos (.inl h1)] at hh
    walk_at "ap"
  · walk_at "go"
    refine ⟨_, b1.last bs.w |>.1, ?_⟩
    walk_at "go"
    refine nin_tup blocksL rfl ?_
    walk_at "go"
    refine iftN (fun h2 => ?_) (fun h2 => ?_)
    · rw [if_pos (.inr (by rw [htg]; exact h2))] at hh
      walk_at "ap"
    · rw [if_neg (fun z => z.elim (fun z => z h1) (fun z => z (by rw [htg]; exact h2)))] at hh
      walk_at "go"
      exact hh S1 op A b1))
theorem ok_text_run (T : Tx K mg) (c_with_entities : CalX P w K mg base 1 "with_entities" (spD K (cWith K)) []) (m_Document_make : MetX P w K mg base 3 (He.ga K "Document") "make" (spD K (cMake K)) []) (m_Document_append : MetX P w K mg base 6 (He.ga K "Document") "append" (spD K (cAppend K)) [])
    {f : Addr} {fd : FuncData} (F : FunD K "text_run" "TreeBuilder.text_run" (defArgs s_TreeBuilder_text_run) (defBody s_TreeBuilder_text_run) (defScope s_TreeBuilder_text_run) [] [] f fd) : FnOk P w K mg base (L2.CX P w) 8 f fd ["self"] (spD K (cStep K textF)) := by
  refine dfn 3 F sc_TreeBuilder_text_run (fun ds S q e h => ?_) rfl (fun cdv A0 outer s H E e hr => ⟨_, (dss_cons (ds_set (i := 1) sc_TreeBuilder_text_run.nd rfl (Or.inl rfl) (de_bm rfl is_tx PySem.F.plainAttrs_str PySem.F.slot_str_find PySem.F.type_str_find md_find2 (de_fld rfl (fd_Scanner_text T) (de_fld rfl (fd_TreeBuilder_scanner T) (dv (pv 0)))) (da_cons de_str (da_cons (de_fld rfl (fd_Scanner_place T) (de_fld rfl (fd_TreeBuilder_scanner T) (dv (pv 0)))) da_nil))))
  (dss_cons (ds_set (i := 1) sc_TreeBuilder_text_run.nd rfl (Or.inl rfl) (de_if (dt_cmp od_lt (dv (pv 1)) de_int) (de_callB (cd_len rfl) (by rfl) T.b_len (by decide +kernel) (da_cons (de_fld rfl (fd_Scanner_text T) (de_fld rfl (fd_TreeBuilder_scanner T) (dv (pv 0)))) da_nil)) (dv (pv 1))))
  (dss_cons (ds_set (i := 2) sc_TreeBuilder_text_run.nd rfl (Or.inl rfl) (de_call rfl c_with_entities dfl_nil hr (by decide) rfl paX (da_cons (de_sl rfl (de_fld rfl (fd_Scanner_text T) (de_fld rfl (fd_TreeBuilder_scanner T) (dv (pv 0)))) (do_some (de_fld rfl (fd_Scanner_place T) (de_fld rfl (fd_TreeBuilder_scanner T) (dv (pv 0))))) (do_some (dv (pv 1)))) da_nil)))
  (dss_cons (ds_fld rfl (fd_Scanner_place T) (de_fld rfl (fd_TreeBuilder_scanner T) (dv (pv 0))) (dv (pv 1)))
  (dss_one (ds_if (PW.pt (dt_or (dt_cmp (od_ne rfl (hU_of hr)) (de_bm rfl is_tx PySem.F.plainAttrs_str PySem.F.slot_str_strip PySem.F.type_str_strip md_strip1 (dv (pv 2)) (da_cons de_str da_nil)) de_str) (pw_or1 (dt_cmp (od_notin rfl (hW_of hr)) (de_fld rfl (fd_Node_tag T) (de_ix rfl (de_fld rfl (fd_TreeBuilder_open_nodes T) (dv (pv 0))) (de_neg de_int))) (de_gcT rfl T.g_BLOCKS (rep_tup T.t_BLOCKS)))))) (dss_one (ds_expr (de_meth (nm := nm_Document) rfl m_Document_append (by decide +kernel) dfl_nil hr (by decide) paX (de_fld rfl (fd_TreeBuilder_document T) (dv (pv 0))) (da_cons (de_ix rfl (de_fld rfl (fd_TreeBuilder_open_nodes T) (dv (pv 0))) (de_neg de_int)) (da_cons (de_meth (nm := nm_Document) rfl m_Document_make (by decide +kernel) dfl_nil hr (by decide) paX (de_fld rfl (fd_TreeBuilder_document T) (dv (pv 0))) (da_cons de_non (da_cons (dv (pv 2)) da_nil))) da_nil))))) dss_nil)))))), fun ds S q h => ?_⟩)
  · obtain ⟨_, _, _, _, _, _, _, _, _, _, rfl, _⟩ := h
    rfl
  · obtain ⟨S0, tb, sc, dc, dn, op, A, z, p, m, rfl, bs, hT0, he, h⟩ := h
    have b := bs.b
    have htb := b.htb
    have hsc := b.hsc
    walk_at "go"
    refine ift (fun h0 => ?_) (fun h0 => ?_)
    · have hE : endT z p = z.length := if_pos h0
      walk_at "go"
      rw [show ((z.length : Nat) : Int) = ((endT z p : Nat) : Int) by rw [hE]]
      walk_at "tx"
    · have hE : endT z p = (Txt.find3 z "<" (p : Int)).toNat := if_neg h0
      walk_at "go"
      rw [show Txt.find3 z "<" (p : Int) = ((endT z p : Nat) : Int) by rw [hE]; omega]
      walk_at "tx"
end
end K05

open PySem PySem.Spec PyProof.Rows L2 Pr Dn LamX

namespace K05
def cClose (K : PySem.W.Frag) : DSp := fun ds S q _ => ∃ S0 tb sc dc dn op A z p m tag, ds = [.ref tb, .str tag] ∧ Bld K S0 S tb sc dc dn op A z p m ∧ Wf m ∧ ∀ S' op', Bld K S0 S' tb sc dc dn op' A z p (closeF m tag) → (∀ x c, S x = some c → x ≠ tb → x ≠ op → S' x = some c) → q .non S'
theorem cutD_take {l : List Dt} {k : Nat} : Dn.cutD l none (some (k : Int)) = l.take k := by
  unfold Dn.cutD
  rw [HT.sIx_none, HT.sIx_nat, List.drop_zero, Nat.sub_zero]
  rcases Nat.lt_or_ge k l.length with h | h
  · rw [Nat.min_eq_left (Nat.le_of_lt h)]
  · rw [Nat.min_eq_right h, List.take_of_length_le (Nat.le_refl _), List.take_of_length_le h]
theorem closeP_wf {m : PM} {tag : Str} (w : Wf m) : Wf (closeP m tag) := by
  unfold closeP
  split
  · rename_i h
    rw [show m.opn.dropLast = m.opn.take (m.opn.length - 1) from List.dropLast_eq_take ..]
    refine w.take ?_
    have h0 := w.last.2
    have h1 := w.last.1
    rcases Nat.lt_or_ge 1 m.opn.length with h2 | h2
    · omega
    · rw [show m.opn.length - 1 = 0 by omega, w.root] at h1
      injection h1 with h1
      have ht := h.2
      rw [← h1] at ht
      unfold tagOf at ht
      rw [w.tag0] at ht
      cases ht
  · exact w
theorem li_pos {m : PM} (w : Wf m) {k : Nat} (h : tagOf m (m.opn.getD k 0) = "li") : 0 < k := by
  rcases Nat.eq_zero_or_pos k with e | e
  · subst e
    rw [List.getD_eq_getElem?_getD, w.root] at h
    unfold tagOf at h
    rw [show ((some 0 : Option Nat).getD 0) = 0 from rfl, w.tag0] at h
    cases h
  · exact e
theorem closeF_wf {m : PM} {tag : Str} (w : Wf m) : Wf (closeF m tag) := by
  have w1 := closeP_wf (tag := tag) w
  unfold closeF
  split
  · split
    · rename_i h
      exact w1.take (li_pos w1 h)
    · exact w1
  · exact w1
theorem closeP_N {m : PM} {tag : Str} : (closeP m tag).N = m.N := by
  unfold closeP
  split <;> rfl
theorem closeF_N {m : PM} {tag : Str} : (closeF m tag).N.length = m.N.length := by
  unfold closeF
  split
  · split
    · exact congrArg List.length closeP_N
    · exact congrArg List.length closeP_N
  · exact congrArg List.length closeP_N
section
variable {P : Program} {w : World} {K : PySem.W.Frag} {mg : Str → Option Value} {base : Heap}
set_option hygiene false in
local macro_rules | `(tactic| walk_at "le") => `(tactic| (
  walk_at "go"
  refine ⟨_, hat, ?_⟩
  walk_at "go"
  rw [htO] at ec2
  refine ift (fun h5 => ?_) (fun h5 => ?_)
  · rw [if_pos h5] at ec2
    walk_at "go"
    intro qa hqa
    rw [cutD_take, show ∀ k, (refsO A m1.opn).take k = refsO A (m1.opn.take k) from fun k => List.map_take.symm]
    walk_at "go"
    rw [ec2] at h
    refine h _ qa (b1.opnN hqa _) fun x c hx n1 n2 => ?_
    have := fr x c hx n1 n2
    rw [sput_ne n1, sput_ne (fun z => by rw [z, hqa] at this; cases this)]
    exact this
  · rw [if_neg h5] at ec2
    walk_at "go"
    rw [ec2] at h
    exact h S1 op b1 fr))
set_option hygiene false in
local macro_rules | `(tactic| walk_at "li") => `(tactic| (
  have htb1 := b1.htb
  have hop1 := b1.hop
  have op0 := w1.last.2
  refine ift (fun hl => ?_) (fun hl => ?_)
  · walk_at "go"
    rw [List.length_map]
    refine ⟨fun k δ S' => k < m1.opn.length ∧ liPlace m1 k = liPlace m1 (m1.opn.length - 1) ∧ δ = [some (.ref tb), some (.str tag), some (.int (k : Nat))] ∧ S1 = S', ⟨m1.opn.length - 1, by omega, rfl, by rw [show ((m1.opn.length : Int) - 1) = ((m1.opn.length - 1 : Nat) : Int) by omega], rfl⟩, fun k δ S' hI => ?_⟩
    obtain ⟨hk, ek, rfl, rfl⟩ := hI
    have hg : m1.opn[k]? = some (m1.opn.getD k 0) := by rw [List.getD_eq_getElem?_getD, List.getElem?_eq_getElem hk]; rfl
    have hkm := List.mem_of_getElem? hg
    obtain ⟨tk, htk, hvk⟩ := w1.tg _ hkm
    have htO : tagOf m1 (m1.opn.getD k 0) = tk := by unfold tagOf; rw [htk]; rfl
    obtain ⟨t2, c2, hA2, hn2, _⟩ := b1.at (w1.lt _ hkm)
    rw [htk, show tagD (some tk) = .str tk from rfl] at hn2
    have ec : ∀ j, liPlace m1 (m1.opn.length - 1) = j → closeF m tag = if tagOf m1 (m1.opn.getD j 0) = "li" then { m1 with opn := m1.opn.take j } else m1 := fun j ej => by
      subst ej
      subst em
      exact if_pos hl
    have hat : atI (refsO A m1.opn) (k : Int) = some (.ref (ad A (m1.opn.getD k 0))) := atI_nat (by rw [List.getElem?_map, hg]; rfl)
    have htb' := htb1
    walk_at "go"
    refine ift (fun h3 => ?_) (fun h3 => ?_)
    · have h3 : 0 < k := by omega
      obtain ⟨k', rfl⟩ : ∃ k', k = k' + 1 := ⟨k - 1, by omega⟩
      walk_at "go"
      refine ⟨_, hat, ?_⟩
      walk_at "go"
      refine nin_tup ["li", "ul", "ol"] rfl ?_
      walk_at "go"
      refine iftN (fun h4 => ?_) (fun h4 => ?_)
      · walk_at "go"
        refine ⟨k', Nat.lt_succ_self _, by omega, ?_, by rw [show (((k' + 1 : Nat) : Int) - 1) = (k' : Int) by omega], rfl⟩
        rw [← ek]
        exact (if_neg (by rw [htO]; exact h4)).symm
      · have e2 : liPlace m1 (k' + 1) = k' + 1 := if_pos (by rw [htO]; exact h4)
        have ec2 := ec _ (ek.symm.trans e2)
        walk_at "le"
    · have ec2 := ec k (by rw [← ek]; have : k = 0 := by omega
                           rw [this]; rfl)
      walk_at "le"
  · walk_at "go"
    rw [show closeF m tag = closeP m tag from if_neg hl, ← em] at h
    exact h S1 op b1 fr))
theorem ok_close (T : Tx K mg) {f : Addr} {fd : FuncData} (F : FunD K "close_before" "TreeBuilder.close_before" (defArgs s_TreeBuilder_close_before) (defBody s_TreeBuilder_close_before) (defScope s_TreeBuilder_close_before) [] [] f fd) : FnOk P w K mg base (L2.CX P w) 1 f fd ["self", "tag"] (spD K (cClose K)) := by
  refine dfn 3 F sc_TreeBuilder_close_before (fun ds S q e h => ?_) rfl (fun cdv A0 outer s H E e hr => ⟨_, (dss_cons (ds_if (PW.pt (dt_and (dt_cmp (od_in rfl (hW_of hr)) (dv (pv 1)) (de_gcT rfl T.g_BLOCKS (rep_tup T.t_BLOCKS))) (pw_and1 (dt_cmp (od_eq rfl (hU_of hr)) (de_fld rfl (fd_Node_tag T) (de_ix rfl (de_fld rfl (fd_TreeBuilder_open_nodes T) (dv (pv 0))) (de_neg de_int))) de_str)))) (dss_one (ds_expr (de_bm0 rfl is_ls PySem.F.plainAttrs_list PySem.F.slot_list_pop PySem.F.type_list_pop md_pop0 (de_fld rfl (fd_TreeBuilder_open_nodes T) (dv (pv 0)))))) dss_nil)
  (dss_one (ds_if (dt_cmp (od_eq rfl (hU_of hr)) (dv (pv 1)) de_str) (dss_cons (ds_set (i := 2) sc_TreeBuilder_close_before.nd rfl (Or.inl rfl) (de_op od_sub (de_callB (cd_len rfl) (by rfl) T.b_len (by decide +kernel) (da_cons (de_fld rfl (fd_TreeBuilder_open_nodes T) (dv (pv 0))) da_nil)) de_int))
  (dss_cons (ds_while poX (PW.pt (dt_and (dt_cmp od_gt (dv (pv 2)) de_int) (pw_and1 (dt_cmp (od_notin rfl (hW_of hr)) (de_fld rfl (fd_Node_tag T) (de_ix rfl (de_fld rfl (fd_TreeBuilder_open_nodes T) (dv (pv 0))) (dv (pv 2)))) (de_tup (da_cons de_str (da_cons de_str (da_cons de_str da_nil)))))))) (dss_one (ds_aug (i := 2) sc_TreeBuilder_close_before.nd rfl (Or.inl rfl) de_int ip_subD)))
  (dss_one (ds_if (dt_cmp (od_eq rfl (hU_of hr)) (de_fld rfl (fd_Node_tag T) (de_ix rfl (de_fld rfl (fd_TreeBuilder_open_nodes T) (dv (pv 0))) (dv (pv 2)))) de_str) (dss_one (ds_fld rfl (fd_TreeBuilder_open_nodes T) (dv (pv 0)) (de_slO rfl (de_fld rfl (fd_TreeBuilder_open_nodes T) (dv (pv 0))) do_none (do_some (dv (pv 2)))))) dss_nil)))) dss_nil))), fun ds S q h => ?_⟩)
  · obtain ⟨_, _, _, _, _, _, _, _, _, _, _, rfl, _⟩ := h
    rfl
  · obtain ⟨S0, tb, sc, dc, dn, op, A, z, p, m, tag, rfl, b, wf, h⟩ := h
    have htb := b.htb
    have hop := b.hop
    obtain ⟨tl, htl, htg, hvl⟩ := (b.last wf).2
    obtain ⟨tt, ct, hAt, hlt, _⟩ := b.at (wf.lt _ wf.lastM)
    rw [htl, show tagD (some tl) = .str tl from rfl] at hlt
    obtain ⟨m1, em⟩ : ∃ m1, m1 = closeP m tag := ⟨_, rfl⟩
    have w1 : Wf m1 := by rw [em]; exact closeP_wf wf
    walk_at "go"
    refine in_tup blocksL rfl ?_
    walk_at "go"
    refine ift (fun h1 => ?_) (fun h1 => ?_)
    · walk_at "go"
      refine ⟨_, (b.last wf).1, ?_⟩
      walk_at "go"
      refine ift (fun h2 => ?_) (fun h2 => ?_)
      · have e1 : closeP m tag = { m with opn := m.opn.dropLast } := if_pos ⟨h1, by rw [htg]; exact h2⟩
        walk_at "go"
        refine ⟨_, by rw [List.length_map, List.getElem?_map, wf.last.1]; rfl, ?_⟩
        rw [show (refsO A m.opn).dropLast = refsO A m.opn.dropLast from List.map_dropLast.symm]
        have b1 := b.opn m.opn.dropLast
        rw [← e1, ← em] at b1
        have fr : ∀ x c, S x = some c → x ≠ tb → x ≠ op → sput S op (.lst (refsO A m.opn.dropLast)) x = some c := fun x c h _ n => by rw [sput_ne n]; exact h
        generalize sput S op (.lst (refsO A m.opn.dropLast)) = S1 at b1 fr ⊢
        walk_at "go"
        walk_at "li"
      · have e1 : closeP m tag = m := if_neg (fun z => h2 (by rw [← htg]; exact z.2))
        obtain ⟨S1, hS1⟩ : ∃ S1, S1 = S := ⟨_, rfl⟩
        have b1 : Bld K S0 S1 tb sc dc dn op A z p m1 := by rw [hS1, em, e1]; exact b
        have fr : ∀ x c, S x = some c → x ≠ tb → x ≠ op → S1 x = some c := by rw [hS1]; exact fun x c h _ _ => h
        rw [← hS1]
        walk_at "go"
        walk_at "li"
    · have e1 : closeP m tag = m := if_neg (fun z => h1 z.1)
      obtain ⟨S1, hS1⟩ : ∃ S1, S1 = S := ⟨_, rfl⟩
      have b1 : Bld K S0 S1 tb sc dc dn op A z p m1 := by rw [hS1, em, e1]; exact b
      have fr : ∀ x c, S x = some c → x ≠ tb → x ≠ op → S1 x = some c := by rw [hS1]; exact fun x c h _ _ => h
      rw [← hS1]
      walk_at "go"
      walk_at "li"
end
end K05

open PySem PySem.Spec PyProof.Rows L2 Pr Dn LamX

namespace K05
theorem enum_opn {A : List Tri} {o : List Nat} : enumD (refsO A o) = (List.range o.length).map fun i => Dt.tup [.int (i : Nat), .ref (ad A (o.getD i 0))] := by
  refine List.ext_getElem? fun i => ?_
  rw [enumD_get, List.getElem?_map, List.getElem?_map]
  by_cases h : i < o.length
  · have e : o[i]? = some (o.getD i 0) := by rw [List.getD_eq_getElem?_getD, List.getElem?_eq_getElem h]; rfl
    rw [List.getElem?_range h, e]
    rfl
  · rw [List.getElem?_eq_none (Nat.le_of_not_lt h), List.getElem?_eq_none (by rw [List.length_range]; exact Nat.le_of_not_lt h)]
    rfl
theorem cutD_take2 {l : List Dt} {k : Nat} : Dn.cutD l none (some (k : Int)) = l.take k := by
  unfold Dn.cutD
  rw [HT.sIx_none, HT.sIx_nat, List.drop_zero, Nat.sub_zero]
  rcases Nat.lt_or_ge k l.length with h | h
  · rw [Nat.min_eq_left (Nat.le_of_lt h)]
  · rw [Nat.min_eq_right h, List.take_of_length_le (Nat.le_refl _), List.take_of_length_le h]
section
variable {P : Program} {w : World} {K : PySem.W.Frag} {mg : Str → Option Value} {base : Heap}
theorem ok_end_tag (T : Tx K mg) (m_Scanner_here_1 : MetX P w K mg base 1 (He.ga K "Scanner") "here" (spD K (cHere K)) [.int 1]) (m_Scanner_skip_blanks : MetX P w K mg base 2 (He.ga K "Scanner") "skip_blanks" (spD K (cSkip K)) []) (m_Scanner_read_name : MetX P w K mg base 2 (He.ga K "Scanner") "read_name" (spD K (cName K)) [])
    {f : Addr} {fd : FuncData} (F : FunD K "end_tag" "TreeBuilder.end_tag" (defArgs s_TreeBuilder_end_tag) (defBody s_TreeBuilder_end_tag) (defScope s_TreeBuilder_end_tag) [] [] f fd) : FnOk P w K mg base (L2.CX P w) 3 f fd ["self"] (spD K (cStep K endF)) := by
  refine dfn 5 F sc_TreeBuilder_end_tag (fun ds S q e h => ?_) rfl (fun cdv A0 outer s H E e hr => ⟨_, (dss_cons (ds_fldaug (K := K) rfl (fd_Scanner_place T) in_addD (de_fld rfl (fd_TreeBuilder_scanner T) (dv (pv 0))) de_int)
  (dss_cons (ds_set (i := 1) sc_TreeBuilder_end_tag.nd rfl (Or.inr rfl) (de_meth0 (nm := nm_Scanner) rfl m_Scanner_read_name (by decide +kernel) dfl_nil hr (by decide) paX (de_fld rfl (fd_TreeBuilder_scanner T) (dv (pv 0)))))
  (dss_cons (ds_expr (de_meth0 (nm := nm_Scanner) rfl m_Scanner_skip_blanks (by decide +kernel) dfl_nil hr (by decide) paX (de_fld rfl (fd_TreeBuilder_scanner T) (dv (pv 0)))))
  (dss_cons (ds_if (dt_cmp (od_ne rfl (hU_of hr)) (de_meth0 (nm := nm_Scanner) rfl m_Scanner_here_1 (by decide +kernel) (df_Scanner_here_1) hr (by decide) paX (de_fld rfl (fd_TreeBuilder_scanner T) (dv (pv 0)))) de_str) (dss_one (dr_raise (C := He.ga K "MarkupError") PySem.F.excBase_ValueError T.x_MarkupError.1 T.g_MarkupError T.x_MarkupError.2.1 (raises_own T.x_MarkupError.2.2.1 T.x_MarkupError.2.2.2) rfl)) dss_nil)
  (dss_cons (ds_fldaug (K := K) rfl (fd_Scanner_place T) in_addD (de_fld rfl (fd_TreeBuilder_scanner T) (dv (pv 0))) de_int)
  (dss_cons (ds_setLc (i := 2) (own := [("place", 3), ("node", 4)]) rfl sc_TreeBuilder_end_tag.nd rfl rfl (sw_true rfl rfl rfl (by decide +kernel)) (di_enum rfl (by rfl) T.b_enumerate (da_cons (de_fld rfl (fd_TreeBuilder_open_nodes T) (dv (pv 0))) da_nil)) (blkOk_by (own := [("place", 3), ("node", 4)]) (N := sl_TreeBuilder_end_tag) (sc := defScope s_TreeBuilder_end_tag) (by decide +kernel)) (fun _ _ _ _ _ => (gw_tup (n := 2) rfl rfl (gws_cons (gw_name (i := 3) sc_TreeBuilder_end_tag.nd rfl (Or.inl rfl) (by decide)) (gws_cons (gw_name (i := 4) sc_TreeBuilder_end_tag.nd rfl (Or.inl rfl) (by decide)) gws_nil)))) (fun _ _ _ _ _ => (ts_one (PW.pt (dt_and (dt_cmp od_gt (dv (pv 3)) de_int) (pw_and1 (dt_cmp (od_eq rfl (hU_of hr)) (de_fld rfl (fd_Node_tag T) (dv (pv 4))) (dv (pv 1)))))))) (fun _ _ _ _ _ => (dv (pv 3))))
  (dss_cons (ds_if (dt_cmp (od_eqN (hW_of hr)) (dv (pv 2)) (de_lst da_nil)) (dss_one (dr_raise (C := He.ga K "MarkupError") PySem.F.excBase_ValueError T.x_MarkupError.1 T.g_MarkupError T.x_MarkupError.2.1 (raises_own T.x_MarkupError.2.2.1 T.x_MarkupError.2.2.2) rfl)) dss_nil)
  (dss_one (ds_fld rfl (fd_TreeBuilder_open_nodes T) (dv (pv 0)) (de_slO rfl (de_fld rfl (fd_TreeBuilder_open_nodes T) (dv (pv 0))) do_none (do_some (de_ix rfl (dv (pv 2)) (de_neg de_int))))))))))))), fun ds S q h => ?_⟩)
  · obtain ⟨_, _, _, _, _, _, _, _, _, _, rfl, _⟩ := h
    rfl
  · obtain ⟨S0, tb, sc, dc, dn, op, A, z, p, m, rfl, bs, hT0, he, h⟩ := h
    have b := bs.b
    have wf := bs.w
    have htb := b.htb
    have hsc := b.hsc
    walk_at "go"
    rw [show (p : Int) + 2 = ((p + 2 : Nat) : Int) by omega]
    have b1 := b.scan (p + 2)
    generalize sput S sc (scC K z (p + 2)) = S1 at b1 ⊢
    have htb1 := b1.htb
    have hsc1 := b1.hsc
    walk_at "go"
    refine ⟨sc, z, p + 2, rfl, hsc1, fun hn => he (if_pos hn) S1 b1.le, fun hn => ?_⟩
    generalize hnm : cutS z (some ((p + 2 : Nat) : Int)) (some (nameP z (p + 2) : Nat)) = tg
    have hF : endF z p m = if hereS z (skipP z (nameP z (p + 2))) 1 ≠ ">" then none else if placesF m tg = [] then none else some (skipP z (nameP z (p + 2)) + 1, { m with opn := m.opn.take ((placesF m tg).getLastD 0) }) := by rw [← hnm]; exact if_neg hn
    have b2 := b1.scan (nameP z (p + 2))
    generalize nameP z (p + 2) = p2 at hF b2 ⊢
    walk_at "go"
    generalize sput S1 sc (scC K z p2) = S2 at b2 ⊢
    have htb2 := b2.htb
    have hsc2 := b2.hsc
    walk_at "go"
    refine ⟨sc, z, p2, rfl, hsc2, ?_⟩
    have b3 := b2.scan (skipP z p2)
    generalize skipP z p2 = p3 at hF b3 ⊢
    generalize sput S2 sc (scC K z p3) = S3 at b3 ⊢
    have htb3 := b3.htb
    have hsc3 := b3.hsc
    walk_at "go"
    refine ⟨sc, z, p3, 1, rfl, hsc3, ?_⟩
    walk_at "go"
    refine iftN (fun h1 => ?_) (fun h1 => ?_)
    · rw [if_pos h1] at hF
      walk_at "go"
      exact he hF S3 b3.le
    · rw [if_neg (fun n => n h1)] at hF
      walk_at "go"
      rw [show (p3 : Int) + 1 = ((p3 + 1 : Nat) : Int) by omega]
      have b4 := b3.scan (p3 + 1)
      generalize sput S3 sc (scC K z (p3 + 1)) = S4 at b4 ⊢
      have htb4 := b4.htb
      have hop4 := b4.hop
      have mx := wf.mx
      walk_at "go"
      refine ⟨_, htb4, ?_⟩
      walk_at "go"
      rw [enum_opn]
      refine ⟨by rw [List.length_map, List.length_range]; exact size6 (by omega), ?_⟩
      walk_at "go"
      refine lc_choose (keep := fun S => S op = some (.lst (refsO A m.opn))) (fun (i : Nat) => Dt.tup [.int i, .ref (ad A (m.opn.getD i 0))]) (fun i => decide (0 < i) && decide (tagOf m (m.opn.getD i 0) = tg)) (fun (i : Nat) => Dt.int i) hop4 (List.range m.opn.length) (fun i hi kY kN hY hN => ?_) ?_
      · have hil := List.mem_range.mp hi
        have hg : m.opn[i]? = some (m.opn.getD i 0) := by rw [List.getD_eq_getElem?_getD, List.getElem?_eq_getElem hil]; rfl
        obtain ⟨tk, htk, hvk⟩ := wf.tg _ (List.mem_of_getElem? hg)
        have htO : tagOf m (m.opn.getD i 0) = tk := by unfold tagOf; rw [htk]; rfl
        obtain ⟨t2, c2, hA2, hn2, _⟩ := b4.at (wf.lt _ (List.mem_of_getElem? hg))
        rw [htk, show tagD (some tk) = .str tk from rfl] at hn2
        walk_at "go"
        refine ift (fun h3 => ?_) (fun h3 => hN (by rw [decide_eq_false (by omega)]; rfl))
        walk_at "go"
        refine ift (fun h4 => hY (by rw [decide_eq_true (show 0 < i by omega), htO, decide_eq_true h4]; rfl)) (fun h4 => hN (by rw [htO, decide_eq_false h4, Bool.and_false]))
      · walk_at "go"
        cases hpl : placesF m tg with
        | nil =>
          rw [if_pos hpl] at hF
          have hpl : (List.range m.opn.length).filter (fun i => decide (0 < i) && decide (tagOf m (m.opn.getD i 0) = tg)) = [] := hpl
          rw [hpl]
          walk_at "go"
          exact he hF S4 b4.le
        | cons x l =>
          rw [if_neg (by rw [hpl]; exact List.cons_ne_nil _ _)] at hF
          have hpl' : (List.range m.opn.length).filter (fun i => decide (0 < i) && decide (tagOf m (m.opn.getD i 0) = tg)) = x :: l := hpl
          rw [hpl']
          walk_at "w"
          rw [show (List.map (fun (i : Nat) => Dt.int i) (x :: l)).isEmpty = false from rfl]
          have hlast : ((x :: l).map fun (i : Nat) => Dt.int i)[((x :: l).map fun (i : Nat) => Dt.int i).length - 1]? = some (Dt.int ((x :: l).getLastD 0 : Nat)) := by
            rw [List.length_map, List.getElem?_map, List.getLastD_eq_getLast?, List.getLast?_eq_getElem?, List.getElem?_eq_getElem (by rw [List.length_cons]; omega)]
            rfl
          walk_at "go"
          refine ⟨_, atI_last hlast (by rw [List.length_map, List.length_cons]; omega), ?_⟩
          walk_at "go"
          intro qa hqa
          rw [cutD_take2, show ∀ k, (refsO A m.opn).take k = refsO A (m.opn.take k) from fun k => List.map_take.symm]
          walk_at "go"
          rw [hpl] at hF
          exact h _ _ hF _ qa A (b4.opnN hqa _)
end
end K05

open PySem PySem.Spec PyProof.Rows L2 Pr Dn LamX

namespace K05
theorem Bld.dicO {K : PySem.W.Frag} {S0 S : Store} {tb sc dc dn op t : Addr} {A : List Tri} {z : Str} {p : Nat} {m : PM} {L L' : List (Key × Dt)} (h : Bld K S0 S tb sc dc dn op A z p m) (ht : S t = some (.dic L)) (f0 : S0 t = none) (n1 : dn ≠ t) (n2 : t ∉ A.map (·.2.1)) : Bld K S0 (sput S t (.dic L')) tb sc dc dn op A z p m := by
  have ne : ∀ x c, S x = some c → (∀ l, c ≠ .dic l) → x ≠ t := fun x c hx hn e => by
    rw [e, ht] at hx
    injection hx with hx
    exact hn _ hx.symm
  obtain ⟨v, hdc⟩ := h.hdc
  obtain ⟨L, hdn, hL⟩ := h.hdn
  refine ⟨by rw [sput_ne (ne _ _ h.htb (fun l e => by cases e))]; exact h.htb, by rw [sput_ne (ne _ _ h.hsc (fun l e => by cases e))]; exact h.hsc, ⟨v, by rw [sput_ne (ne _ _ hdc (fun l e => by cases e))]; exact hdc⟩, ⟨L, by rw [sput_ne n1]; exact hdn, hL⟩, by rw [sput_ne (ne _ _ h.hop (fun l e => by cases e))]; exact h.hop, h.len, fun i n a t' c hn hA => ?_,
    fun x c hx => by rw [sput_ne (fun e => by rw [e, f0] at hx; cases hx)]; exact h.le x c hx, h.ftb, h.fsc, h.fdc, h.fdn, h.fop, h.fA, h.opc, h.chn, h.dna⟩
  obtain ⟨e1, e2, e3⟩ := h.nds i n a t' c hn hA
  exact ⟨by rw [sput_ne (ne _ _ e1 (fun l e => by cases e))]; exact e1, by rw [sput_ne (fun e => n2 (List.mem_map.mpr ⟨_, List.mem_of_getElem? hA, e⟩))]; exact e2, by rw [sput_ne (ne _ _ e3 (fun l e => by cases e))]; exact e3⟩
theorem Bld.new {K : PySem.W.Frag} {S0 S : Store} {tb sc dc dn op t : Addr} {A : List Tri} {z : Str} {p : Nat} {m : PM} {c0 : Cell} (h : Bld K S0 S tb sc dc dn op A z p m) (ht : S t = none) : Bld K S0 (sput S t c0) tb sc dc dn op A z p m ∧ dn ≠ t ∧ t ∉ A.map (·.2.1) ∧ sc ≠ t := by
  have ne : ∀ x c, S x = some c → x ≠ t := fun x c hx e => by rw [e, ht] at hx; cases hx
  obtain ⟨v, hdc⟩ := h.hdc
  obtain ⟨L, hdn, hL⟩ := h.hdn
  refine ⟨⟨by rw [sput_ne (ne _ _ h.htb)]; exact h.htb, by rw [sput_ne (ne _ _ h.hsc)]; exact h.hsc, ⟨v, by rw [sput_ne (ne _ _ hdc)]; exact hdc⟩, ⟨L, by rw [sput_ne (ne _ _ hdn)]; exact hdn, hL⟩, by rw [sput_ne (ne _ _ h.hop)]; exact h.hop, h.len, fun i n a t' c hn hA => ?_,
    fun x c hx => by rw [sput_ne (ne x c (h.le x c hx))]; exact h.le x c hx, h.ftb, h.fsc, h.fdc, h.fdn, h.fop, h.fA, h.opc, h.chn, h.dna⟩, ne _ _ hdn, fun hm => ?_, ne _ _ h.hsc⟩
  · obtain ⟨e1, e2, e3⟩ := h.nds i n a t' c hn hA
    exact ⟨by rw [sput_ne (ne _ _ e1)]; exact e1, by rw [sput_ne (ne _ _ e2)]; exact e2, by rw [sput_ne (ne _ _ e3)]; exact e3⟩
  · obtain ⟨⟨a, t', c⟩, hr, e⟩ := List.mem_map.mp hm
    obtain ⟨i, hi⟩ := List.getElem?_of_mem hr
    have hl : i < m.N.length := by rw [← h.len]; exact (List.getElem?_eq_some_iff.mp hi).1
    obtain ⟨_, e2, _⟩ := h.nds i _ a t' c (nod_get hl) hi
    exact ne _ _ e2 e
theorem dk_new {fd : List (Str × Str)} {k v : Str} (h : aGet fd k = none) : kPut (dkD fd) (Sum.inr k : Key) (.str v) = dkD (fd ++ [(k, v)]) := by
  unfold kPut
  rw [kGet_any, dk_get, h]
  unfold dkD
  rw [List.map_append]
  rfl
theorem dk_last {fd : List (Str × Str)} {k v u : Str} (h : aGet fd k = none) : kPut (dkD (fd ++ [(k, u)])) (Sum.inr k : Key) (.str v) = dkD (fd ++ [(k, v)]) := by
  have hg : aGet (fd ++ [(k, u)]) k = some u := by
    unfold aGet at h ⊢
    rw [Option.map_eq_none_iff] at h
    rw [List.find?_append, h]
    simp
  unfold kPut
  rw [kGet_any, dk_get, hg]
  unfold dkD
  rw [show ((some u : Option Str).map Dt.str).isSome = true from rfl, if_pos rfl, List.map_append, List.map_append, List.map_append]
  congr 1
  · rw [List.map_map]
    refine List.map_congr_left fun p hp => ?_
    show (if (Sum.inr p.1 : Key) = Sum.inr k then _ else _) = _
    rw [if_neg fun e => aGet_none.mp h p.2 (by have := Sum.inr.inj e; rw [← this]; exact hp)]
  · simp
theorem up_len {z s t : Str} {p p' : Nat} (hp : p ≤ z.length) (h : upP z s p = some (t, p')) : t.length ≤ z.length := by
  unfold upP at h
  split at h
  · cases h
  · rename_i h0
    injection h with h
    injection h with h1 _
    rcases find_at z s p hp with e | ⟨k, e, h3, h4⟩
    · omega
    · rw [← h1, e]
      exact cut_len h3
def cAttrs (K : PySem.W.Frag) : DSp := fun ds S q e => ∃ S0 tb sc dc dn op A z p m, ds = [.ref tb] ∧ Bld K S0 S tb sc dc dn op A z p m ∧ p ≤ z.length ∧ z.length ≤ 900000 ∧ (attrF z p = none → ∀ S', Le S0 S' → e (He.ga K "MarkupError") S') ∧
  ∀ fd p', attrF z p = some (fd, p') → ∀ S' t, S t = none → S' t = some (.dic (dkD fd)) → Bld K S0 S' tb sc dc dn op A z p' m → q (.ref t) S'
section
variable {P : Program} {w : World} {K : PySem.W.Frag} {mg : Str → Option Value} {base : Heap}
theorem ok_attrs (T : Tx K mg) (m_Scanner_here_1 : MetX P w K mg base 1 (He.ga K "Scanner") "here" (spD K (cHere K)) [.int 1]) (m_Scanner_skip_blanks : MetX P w K mg base 2 (He.ga K "Scanner") "skip_blanks" (spD K (cSkip K)) []) (m_Scanner_read_name : MetX P w K mg base 2 (He.ga K "Scanner") "read_name" (spD K (cName K)) [])
    (m_Scanner_up_to : MetX P w K mg base 1 (He.ga K "Scanner") "up_to" (spD K (cUp K)) []) (c_with_entities : CalX P w K mg base 1 "with_entities" (spD K (cWith K)) [])
    {f : Addr} {fd : FuncData} (F : FunD K "read_attributes" "TreeBuilder.read_attributes" (defArgs s_TreeBuilder_read_attributes) (defBody s_TreeBuilder_read_attributes) (defScope s_TreeBuilder_read_attributes) [] [] f fd) : FnOk P w K mg base (L2.CX P w) 3 f fd ["self"] (spD K (cAttrs K)) := by
  refine dfn 3 F sc_TreeBuilder_read_attributes (fun ds S q e h => ?_) rfl (fun cdv A0 outer s H E e hr => ⟨_, (dss_cons (ds_set (i := 1) sc_TreeBuilder_read_attributes.nd rfl (Or.inl rfl) de_dnewO)
  (dss_cons (ds_expr (de_meth0 (nm := nm_Scanner) rfl m_Scanner_skip_blanks (by decide +kernel) dfl_nil hr (by decide) paX (de_fld rfl (fd_TreeBuilder_scanner T) (dv (pv 0)))))
  (dss_cons (ds_while poX (dt_cmp (od_notin rfl (hW_of hr)) (de_meth0 (nm := nm_Scanner) rfl m_Scanner_here_1 (by decide +kernel) (df_Scanner_here_1) hr (by decide) paX (de_fld rfl (fd_TreeBuilder_scanner T) (dv (pv 0)))) (de_tup (da_cons de_str (da_cons de_str da_nil)))) (dss_cons (ds_set (i := 2) sc_TreeBuilder_read_attributes.nd rfl (Or.inl rfl) (de_meth0 (nm := nm_Scanner) rfl m_Scanner_read_name (by decide +kernel) dfl_nil hr (by decide) paX (de_fld rfl (fd_TreeBuilder_scanner T) (dv (pv 0)))))
  (dss_cons (ds_if (dt_din (hu_of hr) (dv (pv 2)) (dv (pv 1))) (dss_one (dr_raise (C := He.ga K "MarkupError") PySem.F.excBase_ValueError T.x_MarkupError.1 T.g_MarkupError T.x_MarkupError.2.1 (raises_own T.x_MarkupError.2.2.1 T.x_MarkupError.2.2.2) rfl)) dss_nil)
  (dss_cons (ds_asg de_str (dg_subD (hu_of hr) (dv (pv 1)) (dv (pv 2))))
  (dss_cons (ds_if (dt_cmp (od_eq rfl (hU_of hr)) (de_meth0 (nm := nm_Scanner) rfl m_Scanner_here_1 (by decide +kernel) (df_Scanner_here_1) hr (by decide) paX (de_fld rfl (fd_TreeBuilder_scanner T) (dv (pv 0)))) de_str) (dss_cons (ds_fldaug (K := K) rfl (fd_Scanner_place T) in_addD (de_fld rfl (fd_TreeBuilder_scanner T) (dv (pv 0))) de_int)
  (dss_cons (ds_if (dt_cmp (od_ne rfl (hU_of hr)) (de_meth0 (nm := nm_Scanner) rfl m_Scanner_here_1 (by decide +kernel) (df_Scanner_here_1) hr (by decide) paX (de_fld rfl (fd_TreeBuilder_scanner T) (dv (pv 0)))) de_str) (dss_one (dr_raise (C := He.ga K "MarkupError") PySem.F.excBase_ValueError T.x_MarkupError.1 T.g_MarkupError T.x_MarkupError.2.1 (raises_own T.x_MarkupError.2.2.1 T.x_MarkupError.2.2.2) rfl)) dss_nil)
  (dss_cons (ds_fldaug (K := K) rfl (fd_Scanner_place T) in_addD (de_fld rfl (fd_TreeBuilder_scanner T) (dv (pv 0))) de_int)
  (dss_one (ds_asg (de_call rfl c_with_entities dfl_nil hr (by decide) rfl paX (da_cons (de_meth (nm := nm_Scanner) rfl m_Scanner_up_to (by decide +kernel) dfl_nil hr (by decide) paX (de_fld rfl (fd_TreeBuilder_scanner T) (dv (pv 0))) (da_cons de_str da_nil)) da_nil)) (dg_subD (hu_of hr) (dv (pv 1)) (dv (pv 2)))))))) dss_nil)
  (dss_one (ds_expr (de_meth0 (nm := nm_Scanner) rfl m_Scanner_skip_blanks (by decide +kernel) dfl_nil hr (by decide) paX (de_fld rfl (fd_TreeBuilder_scanner T) (dv (pv 0)))))))))))
  (dss_cons (ds_expr (de_meth (nm := nm_Scanner) rfl m_Scanner_up_to (by decide +kernel) dfl_nil hr (by decide) paX (de_fld rfl (fd_TreeBuilder_scanner T) (dv (pv 0))) (da_cons de_str da_nil)))
  (dss_one (ds_ret (dv (pv 1)))))))), fun ds S q h => ?_⟩)
  · obtain ⟨_, _, _, _, _, _, _, _, _, _, rfl, _⟩ := h
    rfl
  · obtain ⟨S0, tb, sc, dc, dn, op, A, z, p, m, rfl, b, pz, zl, he, h⟩ := h
    walk_at "go"
    intro t ht
    obtain ⟨b1, nd, nat, nst⟩ := b.new (c0 := .dic []) ht
    have f0 := b.f0 ht
    have t1 : sput S t (.dic []) t = some (.dic (dkD [])) := sput_same
    generalize sput S t (.dic []) = S1 at b1 t1 ⊢
    have htb1 := b1.htb
    have hsc1 := b1.hsc
    walk_at "go"
    refine ⟨sc, z, p, rfl, hsc1, ?_⟩
    have b2 := b1.scan (skipP z p)
    have t2 : sput S1 sc (scC K z (skipP z p)) t = some (.dic (dkD [])) := by rw [sput_ne nst.symm]; exact t1
    have ps := skip_at pz
    generalize sput S1 sc (scC K z (skipP z p)) = S2 at b2 t2 ⊢
    walk_at "go"
    refine ⟨fun j δ S' => ∃ p' fd n u2, j = z.length - p' ∧ p' ≤ z.length ∧ fd.length ≤ p' ∧ z.length < n + p' ∧ attrE z n p' fd = attrF z p ∧ δ = [some (.ref tb), some (.ref t), u2] ∧ Bld K S0 S' tb sc dc dn op A z p' m ∧ S' t = some (.dic (dkD fd)), ⟨_, skipP z p, [], z.length + 1, none, rfl, ps.2, Nat.zero_le _, by omega, rfl, rfl, b2, t2⟩, fun j δ S' hI => ?_⟩
    obtain ⟨p', fd, n, u2, ej, hp', hfd, hn, ea, rfl, b', t'⟩ := hI
    have htb' := b'.htb
    have hsc' := b'.hsc
    walk_at "go"
    refine ⟨sc, z, p', 1, rfl, hsc', ?_⟩
    walk_at "go"
    refine nin_tup ["", ">"] rfl ?_
    walk_at "go"
    obtain ⟨n, rfl⟩ : ∃ n', n = n' + 1 := ⟨n - 1, by omega⟩
    refine iftN (fun h0 => ?_) (fun h0 => ?_)
    · have hnn : ¬ (hereS z p' 1 = "" ∨ hereS z p' 1 = ">") := fun hh => h0 (by simpa using hh)
      have e1 : attrE z (n + 1) p' fd = _ := if_neg hnn
      walk_at "go"
      refine ⟨sc, z, p', rfl, hsc', fun hx => ?_, fun hx => ?_⟩
      · rw [if_pos hx] at e1
        exact he (by rw [← ea, e1]) S' b'.le
      · rw [if_neg hx] at e1
        have nb := name_at hp'
        have b3 := b'.scan (nameP z p')
        have t3 : sput S' sc (scC K z (nameP z p')) t = some (.dic (dkD fd)) := by rw [sput_ne nst.symm]; exact t'
        have hpn : p' < nameP z p' := Nat.lt_of_le_of_ne nb.1 (Ne.symm hx)
        generalize cutS z (some (p' : Int)) (some (nameP z p' : Nat)) = nm at e1 ⊢
        generalize sput S' sc (scC K z (nameP z p')) = S3 at b3 t3 ⊢
        generalize nameP z p' = p1 at e1 b3 nb hpn ⊢
        have htb3 := b3.htb
        have hsc3 := b3.hsc
        walk_at "go"
        rw [dk_get]
        cases hg : aGet fd nm with
        | some y =>
          rw [hg] at e1
          walk_at "w"
          rw [show ((some y : Option Str).map Dt.str).isSome = true from rfl]
          walk_at "go"
          exact he (by rw [← ea, e1]; rfl) S3 b3.le
        | none =>
          rw [hg] at e1
          have e1 : attrE z (n + 1) p' fd = if hereS z p1 1 = "=" then _ else _ := e1
          walk_at "w"
          rw [show ((none : Option Str).map Dt.str).isSome = false from rfl]
          walk_at "go"
          refine ⟨by unfold dkD; rw [List.length_map]; exact size6 (by omega), ?_⟩
          rw [dk_new hg]
          have b4 := b3.dicO (L' := dkD (fd ++ [(nm, ("" : Str))])) t3 f0 nd nat
          have t4 : sput S3 t (.dic (dkD (fd ++ [(nm, ("" : Str))]))) t = some (.dic (dkD (fd ++ [(nm, ("" : Str))]))) := sput_same
          generalize sput S3 t (.dic (dkD (fd ++ [(nm, ("" : Str))]))) = S4 at b4 t4 ⊢
          have htb4 := b4.htb
          have hsc4 := b4.hsc
          walk_at "go"
          refine ⟨sc, z, p1, 1, rfl, hsc4, ?_⟩
          walk_at "go"
          refine ift (fun h5 => ?_) (fun h5 => ?_)
          · have e2 : attrE z (n + 1) p' fd = if hereS z (p1 + 1) 1 ≠ "\"" then none else (upP z "\"" (p1 + 2)).bind fun r => (withEnt r.1).bind fun v => attrE z n (skipP z r.2) (fd ++ [(nm, v)]) := e1.trans (if_pos h5)
            walk_at "go"
            rw [show (p1 : Int) + 1 = ((p1 + 1 : Nat) : Int) by omega]
            have b5 := b4.scan (p1 + 1)
            have t5 : sput S4 sc (scC K z (p1 + 1)) t = _ := (sput_ne nst.symm).trans t4
            generalize sput S4 sc (scC K z (p1 + 1)) = S5 at b5 t5 ⊢
            have htb5 := b5.htb
            have hsc5 := b5.hsc
            walk_at "go"
            refine ⟨sc, z, p1 + 1, 1, rfl, hsc5, ?_⟩
            walk_at "go"
            refine iftN (fun h6 => ?_) (fun h6 => ?_)
            · rw [if_pos h6] at e2
              walk_at "go"
              exact he (by rw [← ea, e2]) S5 b5.le
            · rw [if_neg (fun n => n h6)] at e2
              have hl6 := here_len h6 rfl
              walk_at "go"
              rw [show ((p1 + 1 : Nat) : Int) + 1 = ((p1 + 2 : Nat) : Int) by omega]
              have b6 := b5.scan (p1 + 2)
              have t6 : sput S5 sc (scC K z (p1 + 2)) t = _ := (sput_ne nst.symm).trans t5
              generalize sput S5 sc (scC K z (p1 + 2)) = S6 at b6 t6 ⊢
              have htb6 := b6.htb
              have hsc6 := b6.hsc
              walk_at "go"
              refine ⟨sc, z, p1 + 2, "\"", rfl, hsc6, by omega, by decide, fun hu => he (by rw [← ea, e2, hu]; rfl) S6 b6.le, fun tx p3 hu => ?_⟩
              have up := up_at (by omega) hu
              rw [hu] at e2
              have b7 := b6.scan p3
              have t7 : sput S6 sc (scC K z p3) t = _ := (sput_ne nst.symm).trans t6
              generalize sput S6 sc (scC K z p3) = S7 at b7 t7 ⊢
              walk_at "go"
              have hul := up_len (by omega) hu
              refine ⟨tx, rfl, by omega, fun hw => he (by rw [← ea, e2]; show (withEnt tx).bind _ = none; rw [hw]; rfl) S7 b7.le, fun v hw => ?_⟩
              have e3 : attrE z (n + 1) p' fd = attrE z n (skipP z p3) (fd ++ [(nm, v)]) := e2.trans (by show (withEnt tx).bind _ = _; rw [hw]; rfl)
              walk_at "go"
              refine ⟨by unfold dkD; rw [List.length_map, List.length_append, List.length_singleton]; exact size6 (by omega), ?_⟩
              rw [dk_last hg]
              have b8 := b7.dicO (L' := dkD (fd ++ [(nm, v)])) t7 f0 nd nat
              have t8 : sput S7 t (.dic (dkD (fd ++ [(nm, v)]))) t = some (.dic (dkD (fd ++ [(nm, v)]))) := sput_same
              generalize sput S7 t (.dic (dkD (fd ++ [(nm, v)]))) = S8 at b8 t8 ⊢
              have htb8 := b8.htb
              have hsc8 := b8.hsc
              walk_at "go"
              have sk := skip_at up.2
              have up1 : p1 + 2 + 1 ≤ p3 := up.1
              refine ⟨sc, z, p3, rfl, hsc8, ?_⟩
              walk_at "go"
              exact ⟨_, by omega, skipP z p3, fd ++ [(nm, v)], n, _, rfl, sk.2, by rw [List.length_append, List.length_singleton]; omega, by omega, by rw [← ea, e3], rfl, b8.scan _, by rw [sput_ne nst.symm]; exact t8⟩
          · have e2 : attrE z (n + 1) p' fd = attrE z n (skipP z p1) (fd ++ [(nm, ("" : Str))]) := e1.trans (if_neg h5)
            have sk := skip_at nb.2
            walk_at "go"
            refine ⟨sc, z, p1, rfl, hsc4, ?_⟩
            walk_at "go"
            exact ⟨_, by omega, skipP z p1, fd ++ [(nm, ("" : Str))], n, _, rfl, sk.2, by rw [List.length_append, List.length_singleton]; omega, by omega, by rw [← ea, e2], rfl, b4.scan _, by rw [sput_ne nst.symm]; exact t4⟩
    · have hnn : hereS z p' 1 = "" ∨ hereS z p' 1 = ">" := by simpa using h0
      have e1 : attrE z (n + 1) p' fd = (upP z ">" p').map fun r => (fd, r.2) := if_pos hnn
      rw [e1] at ea
      walk_at "go"
      refine ⟨sc, z, p', ">", rfl, hsc', hp', by decide, fun hu => he (by rw [← ea, hu]; rfl) S' b'.le, fun tx p2 hu => ?_⟩
      walk_at "go"
      exact h fd p2 (by rw [← ea, hu]; rfl) _ t ht (by rw [sput_ne nst.symm]; exact t') (b'.scan p2)
end
end K05

open PySem PySem.Spec PyProof.Rows L2 Pr Dn LamX

namespace K05
theorem name_lt {z : Str} {p : Nat} (h : nameP z p ≠ p) : p < z.length := by
  refine here_lt fun e => h ?_
  exact span_stop fun n => n.1 e
theorem raw_void {tag : Str} (h : tag ∈ rawL) : tag ∉ voids := by
  simp only [rawL, List.mem_cons, List.not_mem_nil, or_false] at h
  rcases h with rfl | rfl <;> decide
theorem raw_len {tag : Str} (h : tag ∈ rawL) : tag.length ≤ 6 := by
  simp only [rawL, List.mem_cons, List.not_mem_nil, or_false] at h
  rcases h with rfl | rfl <;> decide
theorem attrE_le {z : Str} : ∀ n p fd fd' p', p ≤ z.length → attrE z n p fd = some (fd', p') → p ≤ p' ∧ p' ≤ z.length
  | 0, _, _, _, _, _, h => by cases h
  | n + 1, p, fd, fd', p', hp, h => by
    have h : (if _ then _ else _) = _ := h
    split at h
    · obtain ⟨⟨tx, p2⟩, hu, e⟩ := Option.map_eq_some_iff.mp h
      have hu := up_at hp hu
      injection e with _ e
      subst e
      exact ⟨Nat.le_trans (Nat.le_add_right _ _) hu.1, hu.2⟩
    · split at h
      · cases h
      · have nb := name_at hp
        split at h
        · cases h
        · split at h
          · split at h
            · cases h
            · rename_i h5 h6
              have hl6 := here_len (Classical.not_not.mp h6) rfl
              obtain ⟨⟨tx, p2⟩, hu, h⟩ := Option.bind_eq_some_iff.mp h
              obtain ⟨v, hw, h⟩ := Option.bind_eq_some_iff.mp h
              have hu := up_at (by omega) hu
              have sk := skip_at hu.2
              have := attrE_le n _ _ _ _ sk.2 h
              have h1 : nameP z p + 2 + 1 ≤ p2 := hu.1
              have h2 : p2 ≤ skipP z p2 := sk.1
              have h3 : skipP z p2 ≤ p' := this.1
              exact ⟨by omega, this.2⟩
          · have sk := skip_at nb.2
            have := attrE_le n _ _ _ _ sk.2 h
            exact ⟨by omega, this.2⟩
theorem attrF_le {z : Str} {p p' : Nat} {fd : List (Str × Str)} (hp : p ≤ z.length) (h : attrF z p = some (fd, p')) : p' ≤ z.length := (attrE_le _ _ _ _ _ (skip_at hp).2 h).2
section
variable {P : Program} {w : World} {K : PySem.W.Frag} {mg : Str → Option Value} {base : Heap}
theorem ok_start_tag (T : Tx K mg) (m_Scanner_read_name : MetX P w K mg base 2 (He.ga K "Scanner") "read_name" (spD K (cName K)) []) (m_Scanner_up_to : MetX P w K mg base 1 (He.ga K "Scanner") "up_to" (spD K (cUp K)) [])
    (m_TreeBuilder_read_attributes : MetX P w K mg base 3 (He.ga K "TreeBuilder") "read_attributes" (spD K (cAttrs K)) []) (m_TreeBuilder_close_before : MetX P w K mg base 1 (He.ga K "TreeBuilder") "close_before" (spD K (cClose K)) [])
    (m_Document_make : MetX P w K mg base 3 (He.ga K "Document") "make" (spD K (cMake K)) []) (m_Document_make_1 : MetX P w K mg base 3 (He.ga K "Document") "make" (spD K (cMake K)) [.str ""]) (m_Document_append : MetX P w K mg base 6 (He.ga K "Document") "append" (spD K (cAppend K)) []) (c_start_state : CalX P w K mg base 2 "start_state" (spD K (cState K)) [])
    {f : Addr} {fd : FuncData} (F : FunD K "start_tag" "TreeBuilder.start_tag" (defArgs s_TreeBuilder_start_tag) (defBody s_TreeBuilder_start_tag) (defScope s_TreeBuilder_start_tag) [] [] f fd) : FnOk P w K mg base (L2.CX P w) 8 f fd ["self"] (spD K (cStep K startF)) := by
  refine dfn 5 F sc_TreeBuilder_start_tag (fun ds S q e h => ?_) rfl (fun cdv A0 outer s H E e hr => ⟨_, (dss_cons (ds_fldaug (K := K) rfl (fd_Scanner_place T) in_addD (de_fld rfl (fd_TreeBuilder_scanner T) (dv (pv 0))) de_int)
  (dss_cons (ds_set (i := 1) sc_TreeBuilder_start_tag.nd rfl (Or.inl rfl) (de_meth0 (nm := nm_Scanner) rfl m_Scanner_read_name (by decide +kernel) dfl_nil hr (by decide) paX (de_fld rfl (fd_TreeBuilder_scanner T) (dv (pv 0)))))
  (dss_cons (ds_set (i := 2) sc_TreeBuilder_start_tag.nd rfl (Or.inl rfl) (de_meth0 (nm := nm_TreeBuilder) rfl m_TreeBuilder_read_attributes (by decide +kernel) dfl_nil hr (by decide) paX (dv (pv 0))))
  (dss_cons (ds_if (dt_cmp (od_eq rfl (hU_of hr)) (dv (pv 1)) de_str) (dss_one (dr_raise (C := He.ga K "MarkupError") PySem.F.excBase_ValueError T.x_MarkupError.1 T.g_MarkupError T.x_MarkupError.2.1 (raises_own T.x_MarkupError.2.2.1 T.x_MarkupError.2.2.2) rfl)) dss_nil)
  (dss_cons (ds_expr (de_meth (nm := nm_TreeBuilder) rfl m_TreeBuilder_close_before (by decide +kernel) dfl_nil hr (by decide) paX (dv (pv 0)) (da_cons (dv (pv 1)) da_nil)))
  (dss_cons (ds_if (dt_cmp od_ge (de_callB (cd_len rfl) (by rfl) T.b_len (by decide +kernel) (da_cons (de_fld rfl (fd_TreeBuilder_open_nodes T) (dv (pv 0))) da_nil)) (de_gcI rfl T.g_MOST_DEEP)) (dss_one (dr_raise (C := He.ga K "MarkupError") PySem.F.excBase_ValueError T.x_MarkupError.1 T.g_MarkupError T.x_MarkupError.2.1 (raises_own T.x_MarkupError.2.2.1 T.x_MarkupError.2.2.2) rfl)) dss_nil)
  (dss_cons (ds_set (i := 3) sc_TreeBuilder_start_tag.nd rfl (Or.inl rfl) (de_meth (nm := nm_Document) rfl m_Document_make_1 (by decide +kernel) (df_Document_make_1) hr (by decide) paX (de_fld rfl (fd_TreeBuilder_document T) (dv (pv 0))) (da_cons (dv (pv 1)) da_nil)))
  (dss_cons (ds_fld rfl (fd_Node_attributes T) (dv (pv 3)) (dv (pv 2)))
  (dss_cons (ds_expr (de_call rfl c_start_state dfl_nil hr (by decide) rfl paX (da_cons (dv (pv 3)) da_nil)))
  (dss_cons (ds_expr (de_meth (nm := nm_Document) rfl m_Document_append (by decide +kernel) dfl_nil hr (by decide) paX (de_fld rfl (fd_TreeBuilder_document T) (dv (pv 0))) (da_cons (de_ix rfl (de_fld rfl (fd_TreeBuilder_open_nodes T) (dv (pv 0))) (de_neg de_int)) (da_cons (dv (pv 3)) da_nil))))
  (dss_one (ds_if (dt_cmp (od_in rfl (hW_of hr)) (dv (pv 1)) (de_gcT rfl T.g_RAW (rep_tup T.t_RAW))) (dss_cons (ds_set (i := 4) sc_TreeBuilder_start_tag.nd rfl (Or.inl rfl) (de_meth (nm := nm_Scanner) rfl m_Scanner_up_to (by decide +kernel) dfl_nil hr (by decide) paX (de_fld rfl (fd_TreeBuilder_scanner T) (dv (pv 0))) (da_cons (de_joined (.cons de_str (.cons (de_fmt (dv (pv 1))) (.cons de_str .nil)))) da_nil)))
  (dss_one (ds_if (dt_cmp (od_ne rfl (hU_of hr)) (dv (pv 4)) de_str) (dss_one (ds_expr (de_meth (nm := nm_Document) rfl m_Document_append (by decide +kernel) dfl_nil hr (by decide) paX (de_fld rfl (fd_TreeBuilder_document T) (dv (pv 0))) (da_cons (dv (pv 3)) (da_cons (de_meth (nm := nm_Document) rfl m_Document_make (by decide +kernel) dfl_nil hr (by decide) paX (de_fld rfl (fd_TreeBuilder_document T) (dv (pv 0))) (da_cons de_non (da_cons (dv (pv 4)) da_nil))) da_nil))))) dss_nil))) (dss_one (ds_if (dt_cmp (od_notin rfl (hW_of hr)) (dv (pv 1)) (de_gcT rfl T.g_VOID (rep_tup T.t_VOID))) (dss_one (ds_expr (de_bm rfl is_ls PySem.F.plainAttrs_list PySem.F.slot_list_append PySem.F.type_list_append md_append (de_fld rfl (fd_TreeBuilder_open_nodes T) (dv (pv 0))) (da_cons (dv (pv 3)) da_nil)))) dss_nil)))))))))))))), fun ds S q h => ?_⟩)
  · obtain ⟨_, _, _, _, _, _, _, _, _, _, rfl, _⟩ := h
    rfl
  · obtain ⟨S0, tb, sc, dc, dn, op, A, z, p, m, rfl, bs, hT0, he, h⟩ := h
    have b := bs.b
    have htb := b.htb
    have hsc := b.hsc
    walk_at "go"
    rw [show (p : Int) + 1 = ((p + 1 : Nat) : Int) by omega]
    have b1 := b.scan (p + 1)
    generalize sput S sc (scC K z (p + 1)) = S1 at b1 ⊢
    have htb1 := b1.htb
    have hsc1 := b1.hsc
    walk_at "go"
    refine ⟨sc, z, p + 1, rfl, hsc1, fun hn => he (if_pos hn) S1 b1.le, fun hn => ?_⟩
    have hlt := name_lt hn
    have nb := name_at (Nat.le_of_lt hlt)
    have hpn : p + 1 < nameP z (p + 1) := Nat.lt_of_le_of_ne nb.1 (Ne.symm hn)
    have hF : startF z p m = _ := if_neg hn
    have b2 := b1.scan (nameP z (p + 1))
    have tgl := cut_len (z := z) nb.1
    generalize cutS z (some ((p + 1 : Nat) : Int)) (some (nameP z (p + 1) : Nat)) = tag at hF tgl ⊢
    generalize sput S1 sc (scC K z (nameP z (p + 1))) = S2 at b2 ⊢
    generalize nameP z (p + 1) = p2 at hF b2 nb hpn
    have htb2 := b2.htb
    walk_at "go"
    refine ⟨S0, tb, sc, dc, dn, op, A, z, p2, m, rfl, b2, nb.2, bs.zl, fun ha => he (by rw [hF, ha]; rfl), fun fd p3 ha S3 t ht0 ht3 b3 => ?_⟩
    have p3l := attrF_le nb.2 ha
    rw [ha] at hF
    have hF : startF z p m = if tag = "html" then none else if (closeF m tag).opn.length ≥ 60 then none else startG z tag fd p3 (closeF m tag) := hF
    have htb3 := b3.htb
    walk_at "go"
    refine ift (fun h1 => ?_) (fun h1 => ?_)
    · walk_at "go"
      exact he (by rw [hF, if_pos h1]) S3 b3.le
    rw [if_neg h1] at hF
    walk_at "go"
    refine ⟨S0, tb, sc, dc, dn, op, A, z, p3, m, tag, rfl, b3, bs.w, fun S4 op4 b4 fr => ?_⟩
    have nt : ∀ x c, S2 x = some c → t ≠ x := fun x c hx e => by rw [← e, ht0] at hx; cases hx
    have ht4 : S4 t = _ := fr t _ ht3 (nt _ _ htb2) (nt _ _ b2.hop)
    have w1 : Wf (closeF m tag) := closeF_wf bs.w
    have hN1 : (closeF m tag).N.length = m.N.length := closeF_N
    generalize closeF m tag = m1 at hF b4 w1 hN1
    have htb4 := b4.htb
    have hop4 := b4.hop
    obtain ⟨v, hdc4⟩ := b4.hdc
    obtain ⟨L, hdn4, hL⟩ := b4.hdn
    walk_at "go"
    rw [List.length_map]
    refine ift (fun h2 => ?_) (fun h2 => ?_)
    · walk_at "go"
      exact he (by rw [hF, if_pos (by omega)]) S4 b4.le
    rw [if_neg (by omega)] at hF
    walk_at "go"
    have zl := bs.zl
    have n1 := bs.n1
    have pz := bs.pz
    have len4 := b4.len
    refine ⟨dc, dn, _, _, L, _, _, rfl, hdc4, hdn4, by omega, fun a at_ c S5 fa fc nca fat nata natc e2 e1 e3 e5 e6 kp => ?_⟩
    obtain ⟨_, hdc2⟩ := b2.hdc
    obtain ⟨_, hdn2, _⟩ := b2.hdn
    have ndt : dn ≠ t := (nt _ _ hdn2).symm
    have ht5 : S5 t = some (.dic (dkD fd)) := kp t _ (nt _ _ hdc2) (nt _ _ hdn2) ht4
    have nta : t ≠ a := fun z => by rw [z, fa] at ht4; cases ht4
    walk_at "go"
    refine ⟨a, _, .str tag, .str "", t, c, .non, .str "", .bl false, fd, rfl, sput_same, by rw [sput_ne nta]; exact ht5, ?_⟩
    rw [sput_sput]
    have f6 : ∀ x, x ≠ a → sput S5 a (nodeC K (A.length : Nat) (.str tag) (.str "") t c .non (.str ((aGet fd "value").getD "")) (.bl (aGet fd "checked").isSome)) x = S5 x := fun x n => sput_ne n
    have e16 : sput S5 a (nodeC K (A.length : Nat) (.str tag) (.str "") t c .non (.str ((aGet fd "value").getD "")) (.bl (aGet fd "checked").isSome)) a = _ := sput_same
    generalize sput S5 a (nodeC K (A.length : Nat) (.str tag) (.str "") t c .non (.str ((aGet fd "value").getD "")) (.bl (aGet fd "checked").isSome)) = S6 at f6 e16 ⊢
    have na : ∀ x c, S4 x = some c → x ≠ a := fun x c hx e => by rw [e, fa] at hx; cases hx
    have kp6 : ∀ x cell, S4 x = some cell → x ≠ dc → x ≠ dn → S6 x = some cell := fun x cell hx n1 n2 => by rw [f6 x (na x cell hx)]; exact kp x cell n1 n2 hx
    have htb6 : S6 tb = _ := kp6 _ _ htb4 (fun z => by rw [z, hdc4] at htb4; injection htb4 with e; injection e with _ e _; exact absurd e (by decide)) (fun z => by rw [z, hdn4] at htb4; cases htb4)
    have hop6 : S6 op4 = _ := kp6 _ _ hop4 (fun z => by rw [z, hdc4] at hop4; cases hop4) (fun z => by rw [z, hdn4] at hop4; cases hop4)
    have hdc6 : S6 dc = _ := (f6 dc (na _ _ hdc4)).trans e5
    obtain ⟨tl, htl, htg, hvl⟩ := (b4.last w1).2
    walk_at "go"
    refine ⟨_, (b4.last w1).1, ?_⟩
    walk_at "go"
    obtain ⟨l, u, ll, ux⟩ := b4.up w1 (m1.opn.length - 1) (lastO m1) w1.last.1
    have mx := w1.mx
    have gt6 : S6 (He.cT K ("Document", some "place_before")).2 = some .gtb := kp6 _ _ (b4.le _ _ hT0) (fun z => by rw [z, b4.fdc] at hT0; cases hT0) (fun z => by rw [z, b4.fdn] at hT0; cases hT0)
    refine ⟨dc, _, a, rfl, gt6, b4.place w1 (w1.lt _ w1.lastM) htl hvl u (by omega) ux (by omega) (n := elemN tag fd) rfl fa (b2.f0 ht0) ndt fc (by rw [← len4]; exact e16) (by rw [f6 t nta]; exact ht5) (by rw [f6 c nca]; exact e3) ⟨v, hdc6⟩ ⟨_, (f6 dn (na _ _ hdn4)).trans e6, Nat.le_trans (kPut_len _ _ _) (Nat.succ_le_succ hL)⟩ kp6 fun S7 b7 => ?_⟩
    have htb7 := b7.htb
    have hsc7 := b7.hsc
    have hop7 := b7.hop
    have hF : startF z p m = startG z tag fd p3 m1 := hF
    walk_at "go"
    refine in_tup rawL rfl ?_
    walk_at "go"
    refine ift (fun h8 => ?_) (fun h8 => ?_)
    · have rl := raw_len h8
      have hG : startG z tag fd p3 m1 = (upP z ((("</" : Str) ++ tag) ++ (">" : Str)) p3).map fun r => (r.2, if r.1 ≠ ("" : Str) then addText (pushF m1 (lastO m1) (elemN tag fd)) m1.N.length r.1 else pushF m1 (lastO m1) (elemN tag fd)) := if_pos h8
      rw [hG] at hF
      walk_at "go"
      have s2 : (("" : Str) ++ "</").length = 2 := rfl
      refine ⟨Nat.le_of_lt (size6 (by rw [s2]; omega)), ?_⟩
      walk_at "go"
      refine ⟨Nat.le_of_lt (size6 (by rw [app_len, s2, show ((">" : Str)).length = 1 from rfl]; omega)), ?_⟩
      walk_at "go"
      refine ⟨sc, z, p3, _, rfl, hsc7, p3l, by rw [app_len, app_len, s2, show ((">" : Str)).length = 1 from rfl]; omega, fun hu => he (by rw [hF]; exact congrArg _ hu) S7 b7.le, fun tx p4 hu => ?_⟩
      have hu : upP z ((("</" : Str) ++ tag) ++ (">" : Str)) p3 = some (tx, p4) := hu
      rw [hu] at hF
      have b8 := b7.scan p4
      generalize sput S7 sc (scC K z p4) = S8 at b8 ⊢
      have htb8 := b8.htb
      obtain ⟨v8, hdc8⟩ := b8.hdc
      obtain ⟨L8, hdn8, hL8⟩ := b8.hdn
      walk_at "go"
      refine iftN (fun h9 => ?_) (fun h9 => ?_)
      · have hF : startF z p m = some (p4, addText (pushF m1 (lastO m1) (elemN tag fd)) m1.N.length tx) := by rw [hF]; exact congrArg some (congrArg (Prod.mk p4) (if_pos h9))
        have w2 : Wf (pushF m1 (lastO m1) (elemN tag fd)) := w1.push (w1.lt _ w1.lastM) rfl
        have hi : m1.N.length < (pushF m1 (lastO m1) (elemN tag fd)).N.length := by rw [push_len]; exact Nat.lt_succ_self _
        have hni : nod (pushF m1 (lastO m1) (elemN tag fd)) m1.N.length = { elemN tag fd with par := some (lastO m1) } := nod_at push_new
        have ha8 : ad (A ++ [(a, t, c)]) m1.N.length = a := by
          rw [← len4]
          exact ad_at (by rw [List.getElem?_append_right (Nat.le_refl _), Nat.sub_self]; rfl)
        obtain ⟨l2, u2, ll2, ux2⟩ := b8.up w2 (m1.opn.length - 1) (lastO m1) w1.last.1
        obtain ⟨_, _, _, hn8, _⟩ := b8.at hi
        rw [hni] at hn8
        have u8 : Up K S8 (ad (A ++ [(a, t, c)]) m1.N.length) ((m1.N.length :: l2).map (ad (A ++ [(a, t, c)]))) := .step hn8 u2
        have len8 := b8.len
        have pl2 : (pushF m1 (lastO m1) (elemN tag fd)).N.length = m1.N.length + 1 := push_len
        have gt8 := b8.le _ _ hT0
        walk_at "go"
        refine ⟨dc, dn, _, _, L8, _, _, rfl, hdc8, hdn8, by omega, fun a2 at2 c2 S9 fa2 fc2 nca2 fat2 nata2 natc2 e22 e21 e23 e25 e26 kp2 => ?_⟩
        walk_at "go"
        refine ⟨dc, a, a2, rfl, kp2 _ _ (fun z => by rw [z, b8.fdc] at hT0; cases hT0) (fun z => by rw [z, b8.fdn] at hT0; cases hT0) gt8, ?_⟩
        have hpl := b8.place w2 hi (show (nod (pushF m1 (lastO m1) (elemN tag fd)) m1.N.length).tag = some tag by rw [hni]; rfl) (raw_void h8) u8 (by rw [List.length_cons]; omega) (fun x hx => (List.mem_cons.mp hx).elim (fun e => by rw [e]; exact hi) (ux2 x)) (by omega) (n := textN tx) rfl (S1 := S9) fa2 (b8.f0 fat2) (fun z => by rw [← z, hdn8] at fat2; cases fat2) fc2 (by rw [← len8]; exact e21) e22 e23 ⟨v8, e25⟩ ⟨_, e26, Nat.le_trans (kPut_len _ _ _) (Nat.succ_le_succ hL8)⟩ (fun x cell hx n1 n2 => kp2 x cell n1 n2 hx) (go := fun S' => q .non S') (fun S3 b9 => h _ _ hF S3 op4 _ b9)
        rw [ha8] at hpl
        exact hpl
      · have hF : startF z p m = some (p4, pushF m1 (lastO m1) (elemN tag fd)) := by rw [hF]; exact congrArg some (congrArg (Prod.mk p4) (if_neg (fun n => n h9)))
        walk_at "go"
        exact h _ _ hF S8 op4 _ b8
    · have hG : startG z tag fd p3 m1 = some (p3, if tag ∉ voids then { pushF m1 (lastO m1) (elemN tag fd) with opn := m1.opn ++ [m1.N.length] } else pushF m1 (lastO m1) (elemN tag fd)) := if_neg h8
      rw [hG] at hF
      walk_at "go"
      refine nin_tup voids rfl ?_
      walk_at "go"
      refine iftN (fun h9 => ?_) (fun h9 => ?_)
      · rw [if_pos h9] at hF
        walk_at "go"
        refine ⟨by rw [List.length_map]; exact size6 (by have := w1.mx; show m1.opn.length ≤ _; omega), ?_⟩
        have hro : refsO (A ++ [(a, t, c)]) (pushF m1 (lastO m1) (elemN tag fd)).opn ++ [.ref a] = refsO (A ++ [(a, t, c)]) (m1.opn ++ [m1.N.length]) := by
          rw [show refsO (A ++ [(a, t, c)]) (m1.opn ++ [m1.N.length]) = refsO (A ++ [(a, t, c)]) m1.opn ++ [.ref (ad (A ++ [(a, t, c)]) m1.N.length)] from List.map_append, ← len4, ad_at (show (A ++ [(a, t, c)])[A.length]? = some (a, t, c) by rw [List.getElem?_append_right (Nat.le_refl _), Nat.sub_self]; rfl)]
          rfl
        rw [hro]
        walk_at "go"
        exact h _ _ hF _ op4 _ (b7.opn _)
      · rw [if_neg (fun n => n h9)] at hF
        walk_at "go"
        exact h _ _ hF S7 op4 _ b7
end
end K05

open PySem PySem.Spec PyProof.Rows L2 Pr Dn LamX

namespace K05
theorem addText_ok {m : PM} (w : Wf m) {pa : Nat} (hp : pa < m.N.length) {t : Str} : Wf (addText m pa t) ∧ (addText m pa t).N.length = m.N.length + 1 := ⟨w.push hp rfl, push_len⟩
theorem text_ok {z : Str} {p p' : Nat} {m m' : PM} (w : Wf m) (hp : p < z.length) (h1 : hereS z p 1 ≠ "<") (h : textF z p m = some (p', m')) : Wf m' ∧ p < p' ∧ p' ≤ z.length ∧ m'.N.length + p ≤ m.N.length + p' := by
  unfold textF at h
  obtain ⟨t, ht, e⟩ := Option.map_eq_some_iff.mp h
  injection e with e1 e2
  have el := end_at hp h1
  rw [e1] at el
  subst e2
  split
  · have := addText_ok w (w.lt _ w.lastM) (t := t)
    exact ⟨this.1, el.1, el.2, by rw [this.2]; omega⟩
  · exact ⟨w, el.1, el.2, by omega⟩
theorem end_ok {z : Str} {p p' : Nat} {m m' : PM} (w : Wf m) (hp : p + 2 ≤ z.length) (h : endF z p m = some (p', m')) : Wf m' ∧ p < p' ∧ p' ≤ z.length ∧ m'.N.length + p ≤ m.N.length + p' := by
  unfold endF at h
  have nb := name_at hp
  have sk := skip_at nb.2
  split at h
  · cases h
  · split at h
    · cases h
    · rename_i h1 h2
      have hl := here_len (Classical.not_not.mp h2) rfl
      split at h
      · cases h
      · rename_i h3
        injection h with h
        injection h with e1 e2
        subst e1
        subst e2
        refine ⟨w.take ?_, by omega, by omega, by show m.N.length + p ≤ _; omega⟩
        generalize cutS z (some ((p + 2 : Nat) : Int)) (some (nameP z (p + 2) : Nat)) = tg at h3
        cases hpl : placesF m tg with
        | nil => exact absurd hpl h3
        | cons x l =>
          have hm : (x :: l).getLastD 0 ∈ placesF m tg := by
            rw [hpl, List.getLastD_eq_getLast?, List.getLast?_eq_some_getLast (List.cons_ne_nil _ _)]
            exact List.getLast_mem _
          have := (List.mem_filter.mp hm).2
          rw [Bool.and_eq_true, decide_eq_true_eq] at this
          exact this.1
theorem start_ok {z : Str} {p p' : Nat} {m m' : PM} (w : Wf m) (h : startF z p m = some (p', m')) : Wf m' ∧ p < p' ∧ p' ≤ z.length ∧ m'.N.length + p ≤ m.N.length + p' := by
  unfold startF at h
  split at h
  · cases h
  · rename_i hn
    have hlt := name_lt hn
    have nb := name_at (Nat.le_of_lt hlt)
    have hpn : p + 1 < nameP z (p + 1) := Nat.lt_of_le_of_ne nb.1 (Ne.symm hn)
    obtain ⟨⟨fd, p3⟩, ha, h⟩ := Option.bind_eq_some_iff.mp h
    have al := attrE_le _ _ _ _ _ (skip_at nb.2).2 ha
    have sk := skip_at nb.2
    generalize cutS z (some ((p + 1 : Nat) : Int)) (some (nameP z (p + 1) : Nat)) = tag at h
    have h : (if _ then _ else _) = _ := h
    split at h
    · cases h
    · split at h
      · cases h
      · rename_i h60
        have w1 : Wf (closeF m tag) := closeF_wf w
        have hN1 : (closeF m tag).N.length = m.N.length := closeF_N
        generalize closeF m tag = m1 at h h60 w1 hN1
        have h : startG z tag fd p3 m1 = some (p', m') := h
        unfold startG at h
        have lp := w1.lt _ w1.lastM
        have w2 : Wf (pushF m1 (lastO m1) (elemN tag fd)) := w1.push lp rfl
        have pl2 : (pushF m1 (lastO m1) (elemN tag fd)).N.length = m1.N.length + 1 := push_len
        split at h
        · obtain ⟨⟨tx, p4⟩, hu, e⟩ := Option.map_eq_some_iff.mp h
          have up := up_at al.2 hu
          injection e with e1 e2
          have e1 : p4 = p' := e1
          subst e1
          subst e2
          have up1 : p3 ≤ p4 := Nat.le_trans (Nat.le_add_right _ _) up.1
          split
          · have := addText_ok w2 (pa := m1.N.length) (by rw [pl2]; exact Nat.lt_succ_self _) (t := tx)
            exact ⟨this.1, by omega, up.2, by rw [this.2]; omega⟩
          · exact ⟨w2, by omega, up.2, by omega⟩
        · injection h with h
          injection h with e1 e2
          subst e1
          subst e2
          split
          · rename_i hv
            exact ⟨w1.open_ (by omega) rfl hv rfl, by omega, al.2, by show (pushF m1 (lastO m1) (elemN tag fd)).N.length + p ≤ _; omega⟩
          · exact ⟨w2, by omega, al.2, by omega⟩
def cBuild (K : PySem.W.Frag) : DSp := fun ds S q e => ∃ S0 tb sc dc dn op A z, ds = [.ref tb] ∧ Bs K S0 S tb sc dc dn op A z 0 rootM ∧ S0 (He.cT K ("Document", some "place_before")).2 = some .gtb ∧ (parseF z = none → ∀ S', Le S0 S' → e (He.ga K "MarkupError") S') ∧ ∀ m', parseF z = some m' → ∀ S' op' A' p', Bld K S0 S' tb sc dc dn op' A' z p' m' → Wf m' → q (.ref dc) S'
def cParse (K : PySem.W.Frag) : DSp := fun ds S q e => ∃ z, ds = [.str z] ∧ z.length ≤ 900000 ∧ S (He.cT K ("Document", some "place_before")).2 = some .gtb ∧ (parseF z = none → ∀ S', Le S S' → e (He.ga K "MarkupError") S') ∧ ∀ m', parseF z = some m' → ∀ S' tb sc dc dn op A p, Bld K S S' tb sc dc dn op A z p m' → Wf m' → q (.ref dc) S'
section
variable {P : Program} {w : World} {K : PySem.W.Frag} {mg : Str → Option Value} {base : Heap}
theorem ok_build (T : Tx K mg) (m_Scanner_here : MetX P w K mg base 1 (He.ga K "Scanner") "here" (spD K (cHere K)) []) (m_Scanner_here_1 : MetX P w K mg base 1 (He.ga K "Scanner") "here" (spD K (cHere K)) [.int 1]) (m_Scanner_up_to : MetX P w K mg base 1 (He.ga K "Scanner") "up_to" (spD K (cUp K)) [])
    (m_TreeBuilder_end_tag : MetX P w K mg base 3 (He.ga K "TreeBuilder") "end_tag" (spD K (cStep K endF)) []) (m_TreeBuilder_start_tag : MetX P w K mg base 8 (He.ga K "TreeBuilder") "start_tag" (spD K (cStep K startF)) []) (m_TreeBuilder_text_run : MetX P w K mg base 8 (He.ga K "TreeBuilder") "text_run" (spD K (cStep K textF)) [])
    {f : Addr} {fd : FuncData} (F : FunD K "build" "TreeBuilder.build" (defArgs s_TreeBuilder_build) (defBody s_TreeBuilder_build) (defScope s_TreeBuilder_build) [] [] f fd) : FnOk P w K mg base (L2.CX P w) 9 f fd ["self"] (spD K (cBuild K)) := by
  refine dfn 1 F sc_TreeBuilder_build (fun ds S q e h => ?_) rfl (fun cdv A0 outer s H E e hr => ⟨_, (dss_cons (ds_while poX (dt_cmp (od_ne rfl (hU_of hr)) (de_meth0 (nm := nm_Scanner) rfl m_Scanner_here_1 (by decide +kernel) (df_Scanner_here_1) hr (by decide) paX (de_fld rfl (fd_TreeBuilder_scanner T) (dv (pv 0)))) de_str) (dss_one (ds_if (dt_cmp (od_eq rfl (hU_of hr)) (de_meth (nm := nm_Scanner) rfl m_Scanner_here (by decide +kernel) dfl_nil hr (by decide) paX (de_fld rfl (fd_TreeBuilder_scanner T) (dv (pv 0))) (da_cons de_int da_nil)) de_str) (dss_cons (ds_fldaug (K := K) rfl (fd_Scanner_place T) in_addD (de_fld rfl (fd_TreeBuilder_scanner T) (dv (pv 0))) de_int)
  (dss_one (ds_expr (de_meth (nm := nm_Scanner) rfl m_Scanner_up_to (by decide +kernel) dfl_nil hr (by decide) paX (de_fld rfl (fd_TreeBuilder_scanner T) (dv (pv 0))) (da_cons de_str da_nil))))) (dss_one (ds_if (dt_cmp (od_eq rfl (hU_of hr)) (de_meth (nm := nm_Scanner) rfl m_Scanner_here (by decide +kernel) dfl_nil hr (by decide) paX (de_fld rfl (fd_TreeBuilder_scanner T) (dv (pv 0))) (da_cons de_int da_nil)) de_str) (dss_one (ds_expr (de_meth0 (nm := nm_TreeBuilder) rfl m_TreeBuilder_end_tag (by decide +kernel) dfl_nil hr (by decide) paX (dv (pv 0))))) (dss_one (ds_if (dt_cmp (od_eq rfl (hU_of hr)) (de_meth0 (nm := nm_Scanner) rfl m_Scanner_here_1 (by decide +kernel) (df_Scanner_here_1) hr (by decide) paX (de_fld rfl (fd_TreeBuilder_scanner T) (dv (pv 0)))) de_str) (dss_one (ds_expr (de_meth0 (nm := nm_TreeBuilder) rfl m_TreeBuilder_start_tag (by decide +kernel) dfl_nil hr (by decide) paX (dv (pv 0))))) (dss_one (ds_expr (de_meth0 (nm := nm_TreeBuilder) rfl m_TreeBuilder_text_run (by decide +kernel) dfl_nil hr (by decide) paX (dv (pv 0))))))))))))
  (dss_one (ds_ret (de_fld rfl (fd_TreeBuilder_document T) (dv (pv 0)))))), fun ds S q h => ?_⟩)
  · obtain ⟨_, _, _, _, _, _, _, _, rfl, _⟩ := h
    rfl
  · obtain ⟨S0, tb, sc, dc, dn, op, A, z, rfl, bs, hT0, he, h⟩ := h
    walk_at "go"
    refine ⟨fun j δ S' => ∃ p m n op A, j = z.length - p ∧ Bs K S0 S' tb sc dc dn op A z p m ∧ z.length < n + p ∧ buildE z n p m = parseF z ∧ δ = [some (.ref tb)], ⟨_, 0, rootM, z.length + 1, op, A, rfl, bs, by omega, rfl, rfl⟩, fun j δ S' hI => ?_⟩
    obtain ⟨p, m, n, op', A', ej, bs', hn, eb, rfl⟩ := hI
    have b := bs'.b
    have pz := bs'.pz
    have htb := b.htb
    have hsc := b.hsc
    obtain ⟨v, hdc⟩ := b.hdc
    obtain ⟨n, rfl⟩ : ∃ n', n = n' + 1 := ⟨n - 1, by omega⟩
    walk_at "go"
    refine ⟨sc, z, p, 1, rfl, hsc, ?_⟩
    walk_at "go"
    refine iftN (fun h0 => ?_) (fun h0 => ?_)
    · have hp := here_lt h0
      have e1 : buildE z (n + 1) p m = (stepF z p m).bind fun r => buildE z n r.1 r.2 := if_neg h0
      rw [e1] at eb
      have fin : ∀ p' m', stepF z p m = some (p', m') → Wf m' ∧ p < p' ∧ p' ≤ z.length ∧ m'.N.length + p ≤ m.N.length + p' → ∀ S2 op2 A2, Bld K S0 S2 tb sc dc dn op2 A2 z p' m' → ∃ j', j' < j ∧ ∃ p m n op A, j' = z.length - p ∧ Bs K S0 S2 tb sc dc dn op A z p m ∧ z.length < n + p ∧ buildE z n p m = parseF z ∧ [some (.ref tb)] = [some (Dt.ref tb)] := fun p' m' hs ok S2 op2 A2 b2 => by
        have n1 := bs'.n1
        refine ⟨_, ?_, p', m', n, op2, A2, rfl, ⟨b2, ok.1, by omega, ok.2.2.1, bs'.zl⟩, by omega, by rw [← eb, hs]; rfl, rfl⟩
        omega
      have err : stepF z p m = none → ∀ S2, Le S0 S2 → e (He.ga K "MarkupError") S2 := fun hs => he (by rw [← eb, hs]; rfl)
      walk_at "go"
      refine ⟨sc, z, p, 4, rfl, hsc, ?_⟩
      walk_at "go"
      refine ift (fun h1 => ?_) (fun h1 => ?_)
      · have hl := here_len h1 rfl
        have hs : stepF z p m = (upP z "-->" (p + 4)).map fun r => (r.2, m) := if_pos h1
        walk_at "go"
        rw [show (p : Int) + 4 = ((p + 4 : Nat) : Int) by omega]
        have b1 := b.scan (p + 4)
        generalize sput S' sc (scC K z (p + 4)) = S1 at b1 ⊢
        have htb1 := b1.htb
        have hsc1 := b1.hsc
        walk_at "go"
        refine ⟨sc, z, p + 4, "-->", rfl, hsc1, by omega, by decide, fun hu => err (by rw [hs, hu]; rfl) S1 b1.le, fun tx p2 hu => ?_⟩
        have up := up_at (by omega) hu
        have up1 : p + 4 + 3 ≤ p2 := up.1
        walk_at "go"
        exact fin p2 m (by rw [hs, hu]; rfl) ⟨bs'.w, by omega, up.2, by omega⟩ _ _ _ (b1.scan p2)
      · have hs1 : stepF z p m = if hereS z p 2 = "</" then endF z p m else if hereS z p 1 = "<" then startF z p m else textF z p m := if_neg h1
        walk_at "go"
        refine ⟨sc, z, p, 2, rfl, hsc, ?_⟩
        walk_at "go"
        refine ift (fun h2 => ?_) (fun h2 => ?_)
        · have hl := here_len h2 rfl
          have hs : stepF z p m = endF z p m := hs1.trans (if_pos h2)
          walk_at "go"
          exact ⟨S0, tb, sc, dc, dn, op', A', z, p, m, rfl, bs', hT0, fun hu => err (hs.trans hu), fun p' m' hu S2 op2 A2 b2 => fin p' m' (hs.trans hu) (end_ok bs'.w (by omega) hu) S2 op2 A2 b2⟩
        · have hs2 : stepF z p m = if hereS z p 1 = "<" then startF z p m else textF z p m := hs1.trans (if_neg h2)
          walk_at "go"
          refine ⟨sc, z, p, 1, rfl, hsc, ?_⟩
          walk_at "go"
          refine ift (fun h3 => ?_) (fun h3 => ?_)
          · have hs : stepF z p m = startF z p m := hs2.trans (if_pos h3)
            walk_at "go"
            exact ⟨S0, tb, sc, dc, dn, op', A', z, p, m, rfl, bs', hT0, fun hu => err (hs.trans hu), fun p' m' hu S2 op2 A2 b2 => fin p' m' (hs.trans hu) (start_ok bs'.w hu) S2 op2 A2 b2⟩
          · have hs : stepF z p m = textF z p m := hs2.trans (if_neg h3)
            walk_at "go"
            exact ⟨S0, tb, sc, dc, dn, op', A', z, p, m, rfl, bs', hT0, fun hu => err (hs.trans hu), fun p' m' hu S2 op2 A2 b2 => fin p' m' (hs.trans hu) (text_ok bs'.w hp h3 hu) S2 op2 A2 b2⟩
    · have e1 : buildE z (n + 1) p m = some m := if_pos h0
      walk_at "go"
      exact h m (by rw [← eb, e1]) S' op' A' p b bs'.w
theorem ok_parse (T : Tx K mg) (k_TreeBuilder : MakX P w K mg base 6 "TreeBuilder" (He.ga K "TreeBuilder") (spD K (cTB K)) []) (m_TreeBuilder_build : MetX P w K mg base 9 (He.ga K "TreeBuilder") "build" (spD K (cBuild K)) [])
    {f : Addr} {fd : FuncData} (F : FunD K "parse_markup" "parse_markup" (defArgs s_parse_markup) (defBody s_parse_markup) (defScope s_parse_markup) [] [] f fd) : FnOk P w K mg base (L2.CX P w) 10 f fd ["text"] (spD K (cParse K)) := by
  refine dfn 1 F sc_parse_markup (fun ds S q e h => ?_) rfl (fun cdv A0 outer s H E e hr => ⟨_, (dss_one (ds_ret (de_meth0 (nm := nm_TreeBuilder) rfl m_TreeBuilder_build (by decide +kernel) dfl_nil hr (by decide) paX (de_make (nm := nm_TreeBuilder) rfl k_TreeBuilder dfl_nil hr (by decide) rfl paX (da_cons (dv (pv 0)) da_nil))))), fun ds S q h => ?_⟩)
  · obtain ⟨_, rfl, _⟩ := h
    rfl
  · obtain ⟨z, rfl, zl, hT0, he, h⟩ := h
    walk_at "go"
    intro tb htb
    refine ⟨tb, z, S, rfl, sput_same, htb, Le.refl.put htb, fun S1 sc dc dn op A b => ⟨rfl, ?_⟩⟩
    have htb1 := b.htb
    walk_at "go"
    exact ⟨S, tb, sc, dc, dn, op, A, z, rfl, ⟨b, wf_root, Nat.le_refl _, Nat.zero_le _, zl⟩, hT0, he, fun m' hm S2 op2 A2 p2 b2 w2 => h m' hm S2 tb sc dc dn op2 A2 p2 b2 w2⟩
end
end K05

open PySem PySem.Spec PyProof.Rows L2 Pr Dn LamX

namespace K05
@[reducible] def pcC (K : PySem.W.Frag) (kind text : Str) (nd : Addr) (w : Nat) : Cell := .ins (He.ga K "Piece") nm_Piece [.str kind, .str text, .ref nd, .int w]
@[reducible] def lnC (K : PySem.W.Frag) (r : Addr) (w : Nat) : Cell := .ins (He.ga K "Line") nm_Line [.ref r, .int w]
@[reducible] def bkC (K : PySem.W.Frag) (lim : Nat) (la : Addr) (sp : Dt) : Cell := .ins (He.ga K "Breaker") nm_Breaker [.int lim, .ref la, sp]
/-- a run: place, text, width -/
structure Run where
  pl : Nat
  tx : Str
  w : Nat
@[reducible] def runD (nd : Addr) (r : Run) : Dt := .tup [.int r.pl, .str r.tx, .ref nd, .int r.w]
def cPiece (K : PySem.W.Frag) : DSp := fun ds S q _ => ∃ m kind text nd, ∃ w : Nat, ds = [.ref m, .str kind, .str text, .ref nd, .int w] ∧ S m = some (.ins (He.ga K "Piece") nm_Piece []) ∧ q .non (sput S m (pcC K kind text nd w))
def cShown (K : PySem.W.Frag) : DSp := fun ds S q _ => ∃ m kind text nd w k tag tx t c par vl ck, ds = [.ref m] ∧ S m = some (pcC K kind text nd w) ∧ S nd = some (nodeC K k tag tx t c par vl ck) ∧ q (.tup [.str kind, .str text, .int k]) S
def cLineI (K : PySem.W.Frag) : DSp := fun ds S q _ => ∃ m, ds = [.ref m] ∧ S m = some (.ins (He.ga K "Line") nm_Line []) ∧ ∀ r S', S r = none → r ≠ m → S' m = some (lnC K r 0) → S' r = some (.lst []) → LeX m S S' → q .non S'
def cLineAdd (K : PySem.W.Frag) : DSp := fun ds S q _ => ∃ l r W runs pc kind text nd w tx, ds = [.ref l, .ref pc, .str tx] ∧ S l = some (lnC K r W) ∧ S r = some (.lst (List.map (runD nd) runs)) ∧ S pc = some (pcC K kind text nd w) ∧ runs.length ≤ 100000 ∧
  ∀ wd, wd = (if kind = "thing" then w else tx.length) → q .non (sput (sput S r (.lst ((runs ++ [Run.mk W tx wd]).map (runD nd)))) l (lnC K r (W + wd)))
def shiftR (c : Nat) (r : Run) : Run := ⟨r.pl + c, r.tx, r.w⟩
def cShift (K : PySem.W.Frag) : DSp := fun ds S q _ => ∃ l r W runs nd, ∃ c : Nat, ds = [.ref l, .int c] ∧ S l = some (lnC K r W) ∧ S r = some (.lst (List.map (runD nd) runs)) ∧ runs.length ≤ 100000 ∧ ∀ r', S r' = none → q .non (sput (sput S r' (.lst ((runs.map (shiftR c)).map (runD nd)))) l (lnC K r' W))
def cBkI (K : PySem.W.Frag) : DSp := fun ds S q _ => ∃ m, ∃ w : Nat, ds = [.ref m, .int w] ∧ S m = some (.ins (He.ga K "Breaker") nm_Breaker []) ∧ ∀ la a r S', S la = none → S a = none → S r = none → la ≠ m → a ≠ m → r ≠ m → la ≠ r → S' m = some (bkC K w la .non) → S' la = some (.lst [.ref a]) → S' a = some (lnC K r 0) → S' r = some (.lst []) → LeX m S S' → q .non S'
def cLast (K : PySem.W.Frag) : DSp := fun ds S q _ => ∃ m lim la sp l x, ds = [.ref m] ∧ S m = some (bkC K lim la sp) ∧ S la = some (.lst (l ++ [.ref x])) ∧ q (.ref x) S
section
variable {P : Program} {w : World} {K : PySem.W.Frag} {mg : Str → Option Value} {base : Heap}
theorem ok_Piece (T : Tx K mg) {f : Addr} {fd : FuncData} (F : FunD K "__init__" "Piece.__init__" (defArgs s_Piece_init) (defBody s_Piece_init) (defScope s_Piece_init) [] [] f fd) : FnOk P w K mg base (L2.CX P w) 1 f fd ["self", "kind", "text", "node", "width"] (spD K (cPiece K)) := by
  refine dfn 5 F sc_Piece_init (fun ds S q e h => ?_) rfl (fun cdv A outer s H E e hr => ⟨_, (dss_cons (ds_fld rfl (fd_Piece_kind T) (dv (pv 0)) (dv (pv 1)))
  (dss_cons (ds_fld rfl (fd_Piece_text T) (dv (pv 0)) (dv (pv 2)))
  (dss_cons (ds_fld rfl (fd_Piece_node T) (dv (pv 0)) (dv (pv 3)))
  (dss_one (ds_fld rfl (fd_Piece_width T) (dv (pv 0)) (dv (pv 4))))))), fun ds S q h => ?_⟩)
  · obtain ⟨_, _, _, _, _, rfl, _⟩ := h
    rfl
  · obtain ⟨m, kind, text, nd, w, rfl, hm, h⟩ := h
    walk_at "go"
    simp only [sput_sput]
    exact h
theorem ok_shown (T : Tx K mg) {f : Addr} {fd : FuncData} (F : FunD K "shown" "Piece.shown" (defArgs s_Piece_shown) (defBody s_Piece_shown) (defScope s_Piece_shown) [] [] f fd) : FnOk P w K mg base (L2.CX P w) 1 f fd ["self"] (spD K (cShown K)) := by
  refine dfn 1 F sc_Piece_shown (fun ds S q e h => ?_) rfl (fun cdv A outer s H E e hr => ⟨_, (dss_one (ds_ret (de_tup (da_cons (de_fld rfl (fd_Piece_kind T) (dv (pv 0))) (da_cons (de_fld rfl (fd_Piece_text T) (dv (pv 0))) (da_cons (de_fld rfl (fd_Node_number T) (de_fld rfl (fd_Piece_node T) (dv (pv 0)))) da_nil)))))), fun ds S q h => ?_⟩)
  · obtain ⟨_, _, _, _, _, _, _, _, _, _, _, _, _, rfl, _⟩ := h
    rfl
  · obtain ⟨m, kind, text, nd, w, k, tag, tx, t, c, par, vl, ck, rfl, hm, hn, h⟩ := h
    walk_at "go"
    exact h
theorem ok_Line (T : Tx K mg) {f : Addr} {fd : FuncData} (F : FunD K "__init__" "Line.__init__" (defArgs s_Line_init) (defBody s_Line_init) (defScope s_Line_init) [] [] f fd) : FnOk P w K mg base (L2.CX P w) 1 f fd ["self"] (spD K (cLineI K)) := by
  refine dfn 1 F sc_Line_init (fun ds S q e h => ?_) rfl (fun cdv A outer s H E e hr => ⟨_, (dss_cons (ds_fld rfl (fd_Line_runs T) (dv (pv 0)) (de_lstO da_nil))
  (dss_one (ds_fld rfl (fd_Line_width T) (dv (pv 0)) de_int))), fun ds S q h => ?_⟩)
  · obtain ⟨_, rfl, _⟩ := h
    rfl
  · obtain ⟨m, rfl, hm, h⟩ := h
    walk_at "go"
    intro r hr0
    have n : r ≠ m := fun z => by rw [z, hm] at hr0; cases hr0
    walk_at "go"
    simp only [sput_sput]
    exact h r _ hr0 n sput_same (by rw [sput_ne n, sput_same]) (LeX.refl.put hr0).own
theorem ok_add (T : Tx K mg) {f : Addr} {fd : FuncData} (F : FunD K "add" "Line.add" (defArgs s_Line_add) (defBody s_Line_add) (defScope s_Line_add) [] [] f fd) : FnOk P w K mg base (L2.CX P w) 1 f fd ["self", "piece", "text"] (spD K (cLineAdd K)) := by
  refine dfn 4 F sc_Line_add (fun ds S q e h => ?_) rfl (fun cdv A outer s H E e hr => ⟨_, (dss_cons (ds_set (i := 3) sc_Line_add.nd rfl (Or.inl rfl) (de_if (dt_cmp (od_eq rfl (hU_of hr)) (de_fld rfl (fd_Piece_kind T) (dv (pv 1))) de_str) (de_fld rfl (fd_Piece_width T) (dv (pv 1))) (de_callB (cd_len rfl) (by rfl) T.b_len (by decide +kernel) (da_cons (dv (pv 2)) da_nil))))
  (dss_cons (ds_expr (de_bm rfl is_ls PySem.F.plainAttrs_list PySem.F.slot_list_append PySem.F.type_list_append md_append (de_fld rfl (fd_Line_runs T) (dv (pv 0))) (da_cons (de_tup (da_cons (de_fld rfl (fd_Line_width T) (dv (pv 0))) (da_cons (dv (pv 2)) (da_cons (de_fld rfl (fd_Piece_node T) (dv (pv 1))) (da_cons (dv (pv 3)) da_nil))))) da_nil)))
  (dss_one (ds_fldaug (K := K) rfl (fd_Line_width T) in_addD (dv (pv 0)) (dv (pv 3)))))), fun ds S q h => ?_⟩)
  · obtain ⟨_, _, _, _, _, _, _, _, _, _, rfl, _⟩ := h
    rfl
  · obtain ⟨l, r, W, runs, pc, kind, text, nd, w, tx, rfl, hl, hr1, hp, rl, h⟩ := h
    have nlr : l ≠ r := fun z => by rw [z, hr1] at hl; cases hl
    walk_at "go"
    refine ift (fun h0 => ?_) (fun h0 => ?_)
    · have hh := h w (by rw [if_pos h0])
      rw [List.map_append] at hh
      walk_at "go"
      refine ⟨by rw [List.length_map]; exact size6 (by omega), ?_⟩
      walk_at "go"
      rw [show (W : Int) + (w : Nat) = ((W + w : Nat) : Int) by omega]
      exact hh
    · have hh := h tx.length (by rw [if_neg h0])
      rw [List.map_append] at hh
      walk_at "go"
      refine ⟨by rw [List.length_map]; exact size6 (by omega), ?_⟩
      walk_at "go"
      rw [show (W : Int) + (tx.length : Nat) = ((W + tx.length : Nat) : Int) by omega]
      exact hh
theorem ok_shift (T : Tx K mg) {f : Addr} {fd : FuncData} (F : FunD K "shift" "Line.shift" (defArgs s_Line_shift) (defBody s_Line_shift) (defScope s_Line_shift) [] [] f fd) : FnOk P w K mg base (L2.CX P w) 1 f fd ["self", "cells"] (spD K (cShift K)) := by
  refine dfn 6 F sc_Line_shift (fun ds S q e h => ?_) rfl (fun cdv A outer s H E e hr => ⟨_, (dss_one (ds_fld rfl (fd_Line_runs T) (dv (pv 0)) (de_lcO (own := [("place", 2), ("text", 3), ("node", 4), ("width", 5)]) rfl sc_Line_shift.nd (di_lst rfl (de_fld rfl (fd_Line_runs T) (dv (pv 0)))) (blkOk_by (own := [("place", 2), ("text", 3), ("node", 4), ("width", 5)]) (N := sl_Line_shift) (sc := defScope s_Line_shift) (by decide +kernel)) (fun _ _ _ _ _ => (gw_tup (n := 4) rfl rfl (gws_cons (gw_name (i := 2) sc_Line_shift.nd rfl (Or.inl rfl) (by decide)) (gws_cons (gw_name (i := 3) sc_Line_shift.nd rfl (Or.inl rfl) (by decide)) (gws_cons (gw_name (i := 4) sc_Line_shift.nd rfl (Or.inl rfl) (by decide)) (gws_cons (gw_name (i := 5) sc_Line_shift.nd rfl (Or.inl rfl) (by decide)) gws_nil)))))) (fun _ _ _ _ _ => ts_nil) (fun _ _ _ _ _ => (de_tup (da_cons (de_op (od_add rfl) (dv (pv 2)) (dv (pv 1))) (da_cons (dv (pv 3)) (da_cons (dv (pv 4)) (da_cons (dv (pv 5)) da_nil))))))))), fun ds S q h => ?_⟩)
  · obtain ⟨_, _, _, _, _, _, rfl, _⟩ := h
    rfl
  · obtain ⟨l, r, W, runs, nd, c, rfl, hl, hr1, rl, h⟩ := h
    have sz : (List.map (runD nd) runs).length < sizeLine := by rw [List.length_map]; exact size6 (by omega)
    walk_at "go"
    refine lc_map (keep := fun S => S r = some (.lst (List.map (runD nd) runs))) (runD nd) (fun x => runD nd (shiftR c x)) hr1 runs (fun x hx kY kN hY => ?_) ?_
    · walk_at "go"
      rw [show (x.pl : Int) + (c : Nat) = ((x.pl + c : Nat) : Int) by omega]
      exact hY
    · intro r' hr'
      walk_at "go"
      have hh := h r' hr'
      rw [List.map_map] at hh
      exact hh
theorem ok_Breaker (T : Tx K mg) (k_Line : MakX P w K mg base 1 "Line" (He.ga K "Line") (spD K (cLineI K)) []) {f : Addr} {fd : FuncData} (F : FunD K "__init__" "Breaker.__init__" (defArgs s_Breaker_init) (defBody s_Breaker_init) (defScope s_Breaker_init) [] [] f fd) : FnOk P w K mg base (L2.CX P w) 3 f fd ["self", "width"] (spD K (cBkI K)) := by
  refine dfn 2 F sc_Breaker_init (fun ds S q e h => ?_) rfl (fun cdv A outer s H E e hr => ⟨_, (dss_cons (ds_fld rfl (fd_Breaker_limit T) (dv (pv 0)) (dv (pv 1)))
  (dss_cons (ds_fld rfl (fd_Breaker_lines T) (dv (pv 0)) (de_lstO (da_cons (de_make0 (nm := nm_Line) rfl k_Line dfl_nil hr (by decide) rfl paX) da_nil)))
  (dss_one (ds_fld rfl (fd_Breaker_space T) (dv (pv 0)) de_non)))), fun ds S q h => ?_⟩)
  · obtain ⟨_, _, rfl, _⟩ := h
    rfl
  · obtain ⟨m, w, rfl, hm, h⟩ := h
    walk_at "go"
    intro a ha
    obtain ⟨nam, ha⟩ := sput_free ha
    refine ⟨a, rfl, sput_same, fun r S1 hr1 nra h1 h2 le => ⟨rfl, ?_⟩⟩
    obtain ⟨_, hr1⟩ := sput_free hr1
    obtain ⟨nrm, hr1⟩ := sput_free hr1
    have hm1 : S1 m = some (.ins (He.ga K "Breaker") nm_Breaker [.int w]) := le _ _ nam.symm (by rw [sput_ne nam.symm, sput_same])
    walk_at "go"
    intro la hla
    have nlm : la ≠ m := fun z => by rw [z, hm1] at hla; cases hla
    have nla : la ≠ a := fun z => by rw [z, h1] at hla; cases hla
    have nlr : la ≠ r := fun z => by rw [z, h2] at hla; cases hla
    have le2 : ∀ x c, x ≠ m → S x = some c → S1 x = some c := fun x c n hx => le x c (fun z => by rw [z, ha] at hx; cases hx) (by rw [sput_ne (fun z => by rw [z, ha] at hx; cases hx), sput_ne n]; exact hx)
    have fla : S la = none := by
      cases e : S la with
      | none => rfl
      | some c => rw [le2 la c nlm e] at hla; cases hla
    walk_at "go"
    simp only [sput_sput]
    refine h la a r _ fla ha hr1 nlm nam nrm nlr sput_same (by rw [sput_ne nlm, sput_same]) (by rw [sput_ne nam, sput_ne nla.symm]; exact h1) (by rw [sput_ne nrm, sput_ne nlr.symm]; exact h2) fun x c n hx => ?_
    rw [sput_ne n, sput_ne (fun z => by rw [z, fla] at hx; cases hx)]
    exact le2 x c n hx
theorem ok_last (T : Tx K mg) {f : Addr} {fd : FuncData} (F : FunD K "last" "Breaker.last" (defArgs s_Breaker_last) (defBody s_Breaker_last) (defScope s_Breaker_last) [] [] f fd) : FnOk P w K mg base (L2.CX P w) 1 f fd ["self"] (spD K (cLast K)) := by
  refine dfn 1 F sc_Breaker_last (fun ds S q e h => ?_) rfl (fun cdv A outer s H E e hr => ⟨_, (dss_one (ds_ret (de_ix rfl (de_fld rfl (fd_Breaker_lines T) (dv (pv 0))) (de_neg de_int)))), fun ds S q h => ?_⟩)
  · obtain ⟨_, _, _, _, _, _, rfl, _⟩ := h
    rfl
  · obtain ⟨m, lim, la, sp, l, x, rfl, hm, hla, h⟩ := h
    walk_at "go"
    refine ⟨.ref x, atI_last (by rw [List.length_append, List.length_singleton, Nat.add_sub_cancel, List.getElem?_append_right (Nat.le_refl _), Nat.sub_self]; rfl) (by rw [List.length_append, List.length_singleton]; omega), ?_⟩
    walk_at "go"
    exact h
end
end K05

open PySem PySem.Spec PyProof.Rows L2 Pr Dn
/-! lines that are broken: the plain way, and the lines in the store -/
namespace K05
structure Ln where
  runs : List Run
  w : Nat
structure Pc where
  kind : Str
  text : Str
  w : Nat
def ln0 : Ln := ⟨[], 0⟩
structure Bk where
  L : List Ln
  l : Ln
  sp : Bool
def Bk.all (b : Bk) : List Ln := b.L ++ [b.l]
def addR (l : Ln) (kind tx : Str) (w : Nat) : Ln := ⟨l.runs ++ [⟨l.w, tx, if kind = "thing" then w else tx.length⟩], l.w + if kind = "thing" then w else tx.length⟩
def Bk.nl (b : Bk) : Bk := ⟨b.L ++ [b.l], ln0, b.sp⟩
def takeS (t : Str) (n : Nat) : Str := cutS t none (some (n : Int))
def dropS (t : Str) (n : Nat) : Str := cutS t (some (n : Int)) none
def brkF (lim : Nat) : Nat → Bk → Str → Bk × Str
  | 0, b, t => (b, t)
  | n + 1, b, t => if b.l.w + t.length > max 1 lim then
      brkF lim n (if max 1 lim - b.l.w > 0 then (Bk.mk b.L (addR b.l "word" (takeS t (max 1 lim - b.l.w)) t.length) b.sp).nl else b.nl) (dropS t (max 1 lim - b.l.w))
    else (b, t)
def w1F (lim : Nat) (b : Bk) (p : Pc) : Bk := if b.l.runs ≠ [] ∧ b.l.w + ((if b.sp = true then 1 else 0) + p.w) > lim ∧ b.sp = true then ⟨b.L ++ [b.l], ln0, false⟩ else b
def w2F (b : Bk) : Bk := if b.sp = true then ⟨b.L, addR b.l "space" " " 1, false⟩ else b
def w3F (lim : Nat) (b : Bk) (p : Pc) : Bk × Str := if p.kind = "word" then brkF lim (2 * p.text.length + 2) b p.text else (b, p.text)
def w4F (p : Pc) (r : Bk × Str) : Bk := if r.2 ≠ ("" : Str) ∨ p.kind = "thing" then ⟨r.1.L, addR r.1.l p.kind r.2 p.w, r.1.sp⟩ else r.1
def wordF (lim : Nat) (b : Bk) (p : Pc) : Bk := w4F p (w3F lim (w2F (w1F lim b p)) p)
def putF (lim : Nat) (b : Bk) (p : Pc) : Bk :=
  if p.kind = "space" then if b.l.runs ≠ [] then ⟨b.L, b.l, true⟩ else b
  else if p.kind = "end" then ⟨b.L ++ [b.l], ln0, false⟩
  else wordF lim b p
def bk0 : Bk := ⟨[], ln0, false⟩
def brk (lim : Nat) (ps : List Pc) : Bk := ps.foldl (putF lim) bk0
def linesF (b : Bk) : List Ln := if b.l.runs = [] then b.L else b.all
structure BkAt (K : PySem.W.Frag) (S0 S : Store) (nd m la : Addr) (LA : List (Addr × Addr)) (lim : Nat) (Ls : List Ln) (sp : Dt) : Prop where
  hm : S m = some (bkC K lim la sp)
  hla : S la = some (.lst (LA.map fun x => Dt.ref x.1))
  len : LA.length = Ls.length
  lns : ∀ (i : Nat) (a r : Addr) (ln : Ln), LA[i]? = some (a, r) → Ls[i]? = some ln → S a = some (lnC K r ln.w) ∧ S r = some (.lst (ln.runs.map (runD nd)))
  na : (LA.map (·.1)).Nodup
  nr : (LA.map (·.2)).Nodup
  lr : la ∉ LA.map (·.2)
  le : Le S0 S
  fm : S0 m = none
  fl : S0 la = none
  fA : ∀ x ∈ LA, S0 x.1 = none ∧ S0 x.2 = none
section
variable {K : PySem.W.Frag} {S0 S : Store} {nd m la : Addr} {LA : List (Addr × Addr)} {lim : Nat} {Ls : List Ln} {sp : Dt}
theorem BkAt.sps (h : BkAt K S0 S nd m la LA lim Ls sp) (sp' : Dt) : BkAt K S0 (sput S m (bkC K lim la sp')) nd m la LA lim Ls sp' := by
  have ne : ∀ x c, S x = some c → (∀ C nm l, c = .ins C nm l → l.length ≠ 3) → x ≠ m := fun x c hx hn e => by
    rw [e, h.hm] at hx
    injection hx with hx
    exact hn _ _ _ hx.symm rfl
  refine ⟨sput_same, by rw [sput_ne (ne _ _ h.hla (fun C nm l e => by cases e))]; exact h.hla, h.len, fun i a r ln h1 h2 => ?_, h.na, h.nr, h.lr, fun x c hx => by rw [sput_ne (fun e => by rw [e, h.fm] at hx; cases hx)]; exact h.le x c hx, h.fm, h.fl, h.fA⟩
  obtain ⟨e1, e2⟩ := h.lns i a r ln h1 h2
  exact ⟨by rw [sput_ne (ne _ _ e1 (fun C nm l e => by cases e; exact Nat.ne_of_beq_eq_false rfl))]; exact e1, by rw [sput_ne (ne _ _ e2 (fun C nm l e => by cases e))]; exact e2⟩
/-- one line is changed -/
theorem BkAt.set (h : BkAt K S0 S nd m la LA lim Ls sp) {i : Nat} {a r : Addr} (hA : LA[i]? = some (a, r)) (ln : Ln) : BkAt K S0 (sput (sput S r (.lst (ln.runs.map (runD nd)))) a (lnC K r ln.w)) nd m la LA lim (Ls.set i ln) sp := by
  have hi : i < Ls.length := by rw [← h.len]; exact (List.getElem?_eq_some_iff.mp hA).1
  obtain ⟨q1, q2⟩ := h.lns i a r _ hA (List.getElem?_eq_getElem hi)
  have mr : r ∈ LA.map (·.2) := List.mem_map.mpr ⟨_, List.mem_of_getElem? hA, rfl⟩
  have nma : m ≠ a := fun e => by
    have := h.hm
    rw [e, q1] at this
    injection this with this
    injection this with _ _ this
    exact absurd (congrArg List.length this) (Nat.ne_of_beq_eq_false rfl)
  have nar : a ≠ r := fun e => by rw [e, q2] at q1; cases q1
  refine ⟨by rw [sput_ne nma, sput_ne (fun e => by have := h.hm; rw [e, q2] at this; cases this)]; exact h.hm, by rw [sput_ne (fun e => by have := h.hla; rw [e, q1] at this; cases this), sput_ne (fun e => h.lr (by rw [e]; exact mr))]; exact h.hla, by rw [List.length_set]; exact h.len, fun j b s ln' h1 h2 => ?_, h.na, h.nr, h.lr, fun x c hx => ?_, h.fm, h.fl, h.fA⟩
  · by_cases hj : i = j
    · subst hj
      rw [hA] at h1
      injection h1 with h1
      injection h1 with e1 e2
      subst e1; subst e2
      rw [List.getElem?_set_self hi] at h2
      injection h2 with h2
      subst h2
      exact ⟨sput_same, by rw [sput_ne nar.symm, sput_same]⟩
    · rw [List.getElem?_set_ne hj] at h2
      obtain ⟨e1, e2⟩ := h.lns j b s ln' h1 h2
      have nba : b ≠ a := fun e => hj (((List.getElem?_inj (List.getElem?_eq_some_iff.mp (show (LA.map (·.1))[i]? = some a by rw [List.getElem?_map, hA]; rfl)).1 h.na).mp ((show (LA.map (·.1))[i]? = some a by rw [List.getElem?_map, hA]; rfl).trans (show (LA.map (·.1))[j]? = some a by rw [List.getElem?_map, h1, ← e]; rfl).symm)))
      have nsr : s ≠ r := fun e => hj (((List.getElem?_inj (List.getElem?_eq_some_iff.mp (show (LA.map (·.2))[i]? = some r by rw [List.getElem?_map, hA]; rfl)).1 h.nr).mp ((show (LA.map (·.2))[i]? = some r by rw [List.getElem?_map, hA]; rfl).trans (show (LA.map (·.2))[j]? = some r by rw [List.getElem?_map, h1, ← e]; rfl).symm)))
      exact ⟨by rw [sput_ne nba, sput_ne (fun e => by rw [e, q2] at e1; cases e1)]; exact e1, by rw [sput_ne (fun e => by rw [e, q1] at e2; cases e2), sput_ne nsr]; exact e2⟩
  · have fA := h.fA _ (List.mem_of_getElem? hA)
    rw [sput_ne (fun e => by rw [e, fA.1] at hx; cases hx), sput_ne (fun e => by rw [e, fA.2] at hx; cases hx)]
    exact h.le x c hx
/-- a new line -/
theorem BkAt.new (h : BkAt K S0 S nd m la LA lim Ls sp) {a r : Addr} {S1 : Store} (fa : S a = none) (fr : S r = none) (e1 : S1 a = some (lnC K r 0)) (e2 : S1 r = some (.lst [])) (kp : ∀ x c, S x = some c → S1 x = some c) : BkAt K S0 (sput S1 la (.lst ((LA.map fun x => Dt.ref x.1) ++ [.ref a]))) nd m la (LA ++ [(a, r)]) lim (Ls ++ [ln0]) sp := by
  have f0 : ∀ x, S x = none → S0 x = none := fun x hx => by
    cases e : S0 x with
    | none => rfl
    | some c => rw [h.le x c e] at hx; cases hx
  have nrl : r ≠ la := fun e => by have := h.hla; rw [← e, fr] at this; cases this
  have hla1 := kp _ _ h.hla
  have hm1 := kp _ _ h.hm
  refine ⟨by rw [sput_ne (fun e => by rw [e, hla1] at hm1; cases hm1)]; exact hm1, by rw [sput_same, List.map_append]; rfl, by rw [List.length_append, List.length_append, h.len]; rfl, fun i b s ln h1 h2 => ?_, ?_, ?_, fun hx => ?_, fun x c hx => by rw [sput_ne (fun e => by rw [e, h.fl] at hx; cases hx)]; exact kp _ _ (h.le x c hx), h.fm, h.fl, fun x hx => ?_⟩
  · by_cases hi : i < LA.length
    · rw [List.getElem?_append_left hi] at h1
      rw [List.getElem?_append_left (by rw [← h.len]; exact hi)] at h2
      obtain ⟨g1, g2⟩ := h.lns i b s ln h1 h2
      exact ⟨by rw [sput_ne (fun e => by rw [e, h.hla] at g1; cases g1)]; exact kp _ _ g1, by rw [sput_ne (fun e => h.lr (List.mem_map.mpr ⟨_, List.mem_of_getElem? h1, e⟩))]; exact kp _ _ g2⟩
    · have hl := (List.getElem?_eq_some_iff.mp h1).1
      rw [List.length_append, List.length_singleton] at hl
      have e : i = LA.length := by omega
      subst e
      rw [List.getElem?_append_right (Nat.le_refl _), Nat.sub_self] at h1
      rw [List.getElem?_append_right (by rw [h.len]; exact Nat.le_refl _), h.len, Nat.sub_self] at h2
      have h1 : (a, r) = (b, s) := by simpa using h1
      have h2 : ln0 = ln := by simpa using h2
      injection h1 with g1 g2
      subst g1; subst g2; subst h2
      exact ⟨by rw [sput_ne (fun e => by rw [e, hla1] at e1; cases e1)]; exact e1, by rw [sput_ne nrl]; exact e2⟩
  · rw [List.map_append]
    refine List.nodup_append.mpr ⟨h.na, by simp, fun x hx y hy e => ?_⟩
    have hy : y = a := List.mem_singleton.mp hy
    obtain ⟨⟨b, s⟩, hb, e'⟩ := List.mem_map.mp hx
    obtain ⟨i, hi⟩ := List.getElem?_of_mem hb
    obtain ⟨g1, _⟩ := h.lns i b s _ hi (List.getElem?_eq_getElem (by rw [← h.len]; exact (List.getElem?_eq_some_iff.mp hi).1))
    have eb : b = a := e'.trans (e.trans hy)
    have g3 : S b = none := by rw [eb]; exact fa
    rw [g3] at g1
    cases g1
  · rw [List.map_append]
    refine List.nodup_append.mpr ⟨h.nr, by simp, fun x hx y hy e => ?_⟩
    have hy : y = r := List.mem_singleton.mp hy
    obtain ⟨⟨b, s⟩, hb, e'⟩ := List.mem_map.mp hx
    obtain ⟨i, hi⟩ := List.getElem?_of_mem hb
    obtain ⟨_, g2⟩ := h.lns i b s _ hi (List.getElem?_eq_getElem (by rw [← h.len]; exact (List.getElem?_eq_some_iff.mp hi).1))
    have eb : s = r := e'.trans (e.trans hy)
    have g3 : S s = none := by rw [eb]; exact fr
    rw [g3] at g2
    cases g2
  · rw [List.map_append] at hx
    rcases List.mem_append.mp hx with hx | hx
    · exact h.lr hx
    · exact nrl (List.mem_singleton.mp hx).symm
  · rcases List.mem_append.mp hx with hx | hx
    · exact h.fA x hx
    · rw [List.mem_singleton.mp hx]
      exact ⟨f0 a fa, f0 r fr⟩
end
end K05

open PySem PySem.Spec PyProof.Rows L2 Pr Dn LamX

namespace K05
abbrev pwx (P : Program) (w : World) (K : PySem.W.Frag) (mg : Str → Option Value) (base : Heap) (f : Addr) (cdv : Value) (A : Around) (outer : List Env) (s : Shared) (HE : Hp) (E : XK) : Cx := cxOf (L2.CX P w) P w K mg base sl_Breaker_put_word "Breaker.put_word" (defScope s_Breaker_put_word) f cdv A outer s HE E
def bd_pw3 : List Stmt := (defBody s_Breaker_put_word).drop 3
def bd_pw4 : List Stmt := (defBody s_Breaker_put_word).drop 4
def SpOk (K : PySem.W.Frag) (S0 : Store) (nd : Addr) (sp : Bool) (d : Dt) : Prop := (sp = false ∧ d = .non) ∨ (sp = true ∧ ∃ a tx w, d = .ref a ∧ S0 a = some (pcC K "space" tx nd w))
structure Sz (b : Bk) (c : Nat) : Prop where
  l : b.L.length + b.l.runs.length ≤ c
  L : ∀ l ∈ b.L, l.runs.length ≤ c
theorem Sz.le {b : Bk} {c c' : Nat} (h : Sz b c) (hc : c ≤ c') : Sz b c' := ⟨Nat.le_trans h.l hc, fun l hl => Nat.le_trans (h.L l hl) hc⟩
theorem Sz.add {b : Bk} {c : Nat} (h : Sz b c) (k t : Str) (w : Nat) (s : Bool) : Sz ⟨b.L, addR b.l k t w, s⟩ (c + 1) := ⟨by
  show b.L.length + (b.l.runs ++ [_]).length ≤ c + 1
  rw [List.length_append, List.length_singleton]
  have := h.l
  omega, fun l hl => Nat.le_succ_of_le (h.L l hl)⟩
theorem Sz.nl {b : Bk} {c : Nat} (h : Sz b c) (s : Bool) : Sz ⟨b.L ++ [b.l], ln0, s⟩ (c + 1) := ⟨by
  show (b.L ++ [b.l]).length + 0 ≤ c + 1
  rw [List.length_append, List.length_singleton]
  have := h.l
  omega, fun l hl => by
  have := h.l
  rcases List.mem_append.mp hl with hl | hl
  · exact Nat.le_succ_of_le (h.L l hl)
  · rw [List.mem_singleton.mp hl]; omega⟩
theorem dropS_len {t : Str} {n : Nat} : (dropS t n).length = t.length - n := by
  unfold dropS cutS
  rw [HT.sIx_none, HT.sIx_nat]
  show ((t.cps.toList.drop (min n t.length)).take (t.length - min n t.length)).toArray.size = _
  rw [List.size_toArray, List.length_take, List.length_drop, Array.length_toList]
  have : t.cps.size = t.length := rfl
  omega
section
variable {K : PySem.W.Frag} {S0 S : Store} {nd m la : Addr} {LA : List (Addr × Addr)} {lim : Nat} {sp : Dt}
theorem BkAt.split {L : List Ln} {l : Ln} (h : BkAt K S0 S nd m la LA lim (L ++ [l]) sp) : ∃ X a r, LA = X ++ [(a, r)] ∧ X.length = L.length ∧ LA[X.length]? = some (a, r) ∧ S a = some (lnC K r l.w) ∧ S r = some (.lst (l.runs.map (runD nd))) := by
  have hl := h.len
  rw [List.length_append, List.length_singleton] at hl
  obtain ⟨X, x, e⟩ : ∃ X x, LA = X ++ [x] := by
    cases hr : LA.reverse with
    | nil =>
      have := congrArg List.length hr
      rw [List.length_reverse] at this
      rw [hl] at this
      cases this
    | cons x t => exact ⟨t.reverse, x, by have := congrArg List.reverse hr; rw [List.reverse_reverse, List.reverse_cons] at this; exact this⟩
  obtain ⟨a, r⟩ := x
  have hx : X.length = L.length := by
    rw [e, List.length_append, List.length_singleton] at hl
    omega
  have hA : LA[X.length]? = some (a, r) := by rw [e, List.getElem?_append_right (Nat.le_refl _), Nat.sub_self]; rfl
  obtain ⟨q1, q2⟩ := h.lns X.length a r l hA (by rw [hx, List.getElem?_append_right (Nat.le_refl _), Nat.sub_self]; rfl)
  exact ⟨X, a, r, e, hx, hA, q1, q2⟩
/-- the last line is changed -/
theorem BkAt.setL {L : List Ln} {l l' : Ln} (h : BkAt K S0 S nd m la LA lim (L ++ [l]) sp) {X : List (Addr × Addr)} {a r : Addr} (hx : X.length = L.length) (hA : LA[X.length]? = some (a, r)) : BkAt K S0 (sput (sput S r (.lst (l'.runs.map (runD nd)))) a (lnC K r l'.w)) nd m la LA lim (L ++ [l']) sp := by
  have q := h.set hA l'
  rw [hx, List.set_append_right _ _ (Nat.le_refl _), Nat.sub_self] at q
  exact q
end
section
variable {P : Program} {w : World} {K : PySem.W.Frag} {mg : Str → Option Value} {base : Heap} {f : Addr} {cdv : Value} {A0 : Around} {outer : List Env} {s : Shared} {HE : Hp} {E : XK} {e : DX}
set_option hygiene false in
local macro_rules | `(tactic| walk_at "fa") => `(tactic| (
  walk_at "go"
  refine ⟨m, lim, la, .non, _, a, rfl, hm, hlaX, ?_⟩
  walk_at "go"
  refine ⟨a, r, b'.l.w, b'.l.runs, pc, p.kind, p.text, nd, p.w, t', rfl, ha, hrr, hpc', by omega, fun wd hwd => ?_⟩
  subst hwd
  walk_at "go"
  refine nx _ _ LA' ?_
  rw [hw4]
  exact bk'.setL (l' := addR b'.l p.kind t' p.w) hx hA))
set_option hygiene false in
local macro_rules | `(tactic| walk_at "fi") => `(tactic| (
  walk_at "go"
  refine iftN (fun h5 => ?_) (fun h5 => ?_)
  · have hw4 : w4F p (b', t') = ⟨b'.L, addR b'.l p.kind t' p.w, b'.sp⟩ := if_pos (.inl h5)
    walk_at "fa"
  · walk_at "go"
    refine ift (fun h6 => ?_) (fun h6 => ?_)
    · have hw4 : w4F p (b', t') = ⟨b'.L, addR b'.l p.kind t' p.w, b'.sp⟩ := if_pos (.inr h6)
      walk_at "fa"
    · have hw4 : w4F p (b', t') = b' := if_neg (fun z => z.elim (fun z => z h5) h6)
      walk_at "go"
      refine nx _ _ LA' ?_
      rw [hw4]
      exact bk'))
set_option hygiene false in
local macro_rules | `(tactic| walk_at "nl") => `(tactic| (
  walk_at "go"
  intro x hx0
  refine ⟨x, rfl, sput_same, fun y S3 hy nyx g1 g2 le => ⟨rfl, ?_⟩⟩
  obtain ⟨_, hy⟩ := sput_free hy
  have kp : ∀ q cell, S2 q = some cell → S3 q = some cell := fun q cell hq => le q cell (fun z => by rw [z, hx0] at hq; cases hq) (by rw [sput_ne (fun z => by rw [z, hx0] at hq; cases hq)]; exact hq)
  have hla3 := kp _ _ hla2
  walk_at "go"
  refine ⟨by rw [List.length_map, bk2.len, show b2.all = b2.L ++ [b2.l] from rfl, List.length_append, List.length_singleton]; have := sz2.l; exact size6 (by omega), ?_⟩
  walk_at "go"
  exact ⟨_, hj.1, b2.nl, dropS t' rm, _, n, _, _, c' + 1 + 1, rfl, by have := hj.1; show 2 * (dropS t' rm).length + 0 < n; omega, by rw [if_pos h0, if_pos h0]; exact eb, bk2.new hx0 hy g1 g2 kp, hsp2, sz2.nl _, by show _ + 2 * (2 * (dropS t' rm).length + 0) ≤ _; omega, rfl⟩))
theorem bl_pw4 (T : Tx K mg) (k_Line : MakX P w K mg base 1 "Line" (He.ga K "Line") (spD K (cLineI K)) []) (m_Line_add : MetX P w K mg base 1 (He.ga K "Line") "add" (spD K (cLineAdd K)) []) (m_Breaker_last : MetX P w K mg base 1 (He.ga K "Breaker") "last" (spD K (cLast K)) [])
    (hr : Room 2 (A0.deeper (envOfC "Breaker.put_word" (defScope s_Breaker_put_word) s.heap.objs.size f cdv))) :
    ∃ t, PSs (pwx P w K mg base f cdv A0 outer s HE E) bd_pw4 (tDS K E e t) ∧ ∀ (D : DEnds) (S : Store) (S0 : Store) (nd m la pc : Addr) (LA : List (Addr × Addr)) (lim : Nat) (b : Bk) (p : Pc) (tx : Str) (c : Nat) (u3 u4 : Option Dt), BkAt K S0 S nd m la LA lim b.all .non → b.sp = false → S0 pc = some (pcC K p.kind p.text nd p.w) → Sz b c → c + 4 * tx.length + 10 ≤ 90000 →
      (∀ δ' S' LA', BkAt K S0 S' nd m la LA' lim (w4F p (if p.kind = "word" then brkF lim (2 * tx.length + 2) b tx else (b, tx))).all .non → D.nx δ' S') → t D [some (.ref m), some (.ref pc), some (.str tx), u3, u4] S := by
  refine ⟨_, (dss_cons (ds_while poX (PW.pt (dt_and (dt_cmp (od_eq rfl (hU_of hr)) (de_fld rfl (fd_Piece_kind T) (dv (pv 1))) de_str) (pw_and1 (dt_cmp od_gt (de_op (od_add rfl) (de_fld rfl (fd_Line_width T) (de_meth0 (nm := nm_Breaker) rfl m_Breaker_last (by decide +kernel) dfl_nil hr (by decide) paX (dv (pv 0)))) (de_callB (cd_len rfl) (by rfl) T.b_len (by decide +kernel) (da_cons (dv (pv 2)) da_nil))) (de_callB (cd_max rfl) (by rfl) T.b_max (by decide +kernel) (da_cons de_int (da_cons (de_fld rfl (fd_Breaker_limit T) (dv (pv 0))) da_nil))))))) (dss_cons (ds_set (i := 4) sc_Breaker_put_word.nd rfl (Or.inl rfl) (de_callB (cd_max rfl) (by rfl) T.b_max (by decide +kernel) (da_cons de_int (da_cons (de_op od_sub (de_callB (cd_max rfl) (by rfl) T.b_max (by decide +kernel) (da_cons de_int (da_cons (de_fld rfl (fd_Breaker_limit T) (dv (pv 0))) da_nil))) (de_fld rfl (fd_Line_width T) (de_meth0 (nm := nm_Breaker) rfl m_Breaker_last (by decide +kernel) dfl_nil hr (by decide) paX (dv (pv 0))))) da_nil))))
  (dss_cons (ds_if (dt_cmp od_gt (dv (pv 4)) de_int) (dss_one (ds_expr (de_meth (nm := nm_Line) rfl m_Line_add (by decide +kernel) dfl_nil hr (by decide) paX (de_meth0 (nm := nm_Breaker) rfl m_Breaker_last (by decide +kernel) dfl_nil hr (by decide) paX (dv (pv 0))) (da_cons (dv (pv 1)) (da_cons (de_sl rfl (dv (pv 2)) do_none (do_some (dv (pv 4)))) da_nil))))) dss_nil)
  (dss_cons (ds_set (i := 2) sc_Breaker_put_word.nd rfl (Or.inl rfl) (de_sl rfl (dv (pv 2)) (do_some (dv (pv 4))) do_none))
  (dss_one (ds_expr (de_bm rfl is_ls PySem.F.plainAttrs_list PySem.F.slot_list_append PySem.F.type_list_append md_append (de_fld rfl (fd_Breaker_lines T) (dv (pv 0))) (da_cons (de_make0 (nm := nm_Line) rfl k_Line dfl_nil hr (by decide) rfl paX) da_nil))))))))
  (dss_one (ds_if (PW.pt (dt_or (dt_cmp (od_ne rfl (hU_of hr)) (dv (pv 2)) de_str) (pw_or1 (dt_cmp (od_eq rfl (hU_of hr)) (de_fld rfl (fd_Piece_kind T) (dv (pv 1))) de_str)))) (dss_one (ds_expr (de_meth (nm := nm_Line) rfl m_Line_add (by decide +kernel) dfl_nil hr (by decide) paX (de_meth0 (nm := nm_Breaker) rfl m_Breaker_last (by decide +kernel) dfl_nil hr (by decide) paX (dv (pv 0))) (da_cons (dv (pv 1)) (da_cons (dv (pv 2)) da_nil))))) dss_nil))), fun D S S0 nd m la pc LA lim b p tx c u3 u4 bk hsp hpc sz hc nx => ?_⟩
  walk_at "w"
  refine ⟨fun j δ S' => ∃ b' t' LA' n u3 u4 c', j = 2 * t'.length + (if b'.l.w = 0 then 0 else 1) ∧ j < n ∧ (if p.kind = "word" then brkF lim n b' t' else (b', t')) = (if p.kind = "word" then brkF lim (2 * tx.length + 2) b tx else (b, tx)) ∧ BkAt K S0 S' nd m la LA' lim b'.all .non ∧ b'.sp = false ∧ Sz b' c' ∧ c' + 2 * j ≤ c + 4 * tx.length + 4 ∧ δ = [some (.ref m), some (.ref pc), some (.str t'), u3, u4], ⟨_, b, tx, LA, 2 * tx.length + 2, u3, u4, c, rfl, by split <;> omega, rfl, bk, hsp, sz, by split <;> omega, rfl⟩, fun j δ S' hI => ?_⟩
  obtain ⟨b', t', LA', n, u3, u4, c', ej, hn, eb, bk', hsp', sz', hc', rfl⟩ := hI
  have hpc' := bk'.le _ _ hpc
  have hm := bk'.hm
  have hla := bk'.hla
  obtain ⟨X, a, r, eA, hx, hA, ha, hrr⟩ := bk'.split
  have hlaX : S' la = some (.lst (X.map (fun x => Dt.ref x.1) ++ [.ref a])) := by rw [hla, eA, List.map_append]; rfl
  obtain ⟨n, rfl⟩ : ∃ n', n = n' + 1 := ⟨n - 1, by omega⟩
  have hsl := sz'.l
  walk_at "go"
  refine ift (fun h0 => ?_) (fun h0 => ?_)
  · rw [if_pos h0, if_pos h0] at eb
    walk_at "go"
    refine ⟨m, lim, la, .non, _, a, rfl, hm, hlaX, ?_⟩
    walk_at "go"
    refine ift (fun h1 => ?_) (fun h1 => ?_)
    · obtain ⟨rm, hrm⟩ : ∃ rm, rm = max 1 lim - b'.l.w := ⟨_, rfl⟩
      have e1 : brkF lim (n + 1) b' t' = brkF lim n (if rm > 0 then (Bk.mk b'.L (addR b'.l "word" (takeS t' rm) t'.length) b'.sp).nl else b'.nl) (dropS t' rm) := by rw [hrm]; exact if_pos (by omega)
      rw [e1] at eb
      have dl := dropS_len (t := t') (n := rm)
      walk_at "go"
      refine ⟨m, lim, la, .non, _, a, rfl, hm, hlaX, ?_⟩
      walk_at "go"
      rw [show max 0 (max 1 (lim : Int) - (b'.l.w : Int)) = ((rm : Nat) : Int) by omega]
      refine ift (fun h2 => ?_) (fun h2 => ?_)
      · rw [if_pos (show rm > 0 by omega)] at eb
        walk_at "go"
        refine ⟨m, lim, la, .non, _, a, rfl, hm, hlaX, ?_⟩
        walk_at "go"
        refine ⟨a, r, b'.l.w, b'.l.runs, pc, p.kind, p.text, nd, p.w, takeS t' rm, rfl, ha, hrr, hpc', by omega, fun wd hwd => ?_⟩
        rw [if_neg (by rw [h0]; decide)] at hwd
        subst hwd
        have bk2 := bk'.setL (l' := addR b'.l "word" (takeS t' rm) t'.length) hx hA
        have hla2 : sput (sput S' r (.lst ((b'.l.runs ++ [Run.mk b'.l.w (takeS t' rm) (takeS t' rm).length]).map (runD nd)))) a (lnC K r (b'.l.w + (takeS t' rm).length)) la = _ := bk2.hla
        have hm2 : sput (sput S' r (.lst ((b'.l.runs ++ [Run.mk b'.l.w (takeS t' rm) (takeS t' rm).length]).map (runD nd)))) a (lnC K r (b'.l.w + (takeS t' rm).length)) m = _ := bk2.hm
        have sz2 : Sz ⟨b'.L, addR b'.l "word" (takeS t' rm) t'.length, b'.sp⟩ (c' + 1) := sz'.add _ _ _ _
        have bk2 : BkAt K S0 (sput (sput S' r (.lst ((b'.l.runs ++ [Run.mk b'.l.w (takeS t' rm) (takeS t' rm).length]).map (runD nd)))) a (lnC K r (b'.l.w + (takeS t' rm).length))) nd m la LA' lim (Bk.mk b'.L (addR b'.l "word" (takeS t' rm) t'.length) b'.sp).all .non := bk2
        generalize sput (sput S' r (.lst ((b'.l.runs ++ [Run.mk b'.l.w (takeS t' rm) (takeS t' rm).length]).map (runD nd)))) a (lnC K r (b'.l.w + (takeS t' rm).length)) = S2 at bk2 hla2 hm2 ⊢
        generalize hb2 : Bk.mk b'.L (addR b'.l "word" (takeS t' rm) t'.length) b'.sp = b2 at eb bk2 sz2
        have hsp2 : b2.sp = false := by rw [← hb2]; exact hsp'
        have hj : 2 * (dropS t' rm).length < j ∧ c' + 1 + 1 + 2 * (2 * (dropS t' rm).length) ≤ c + 4 * tx.length + 4 := by
          rw [dl]
          split at ej <;> omega
        walk_at "nl"
      · rw [if_neg (show ¬ rm > 0 by omega)] at eb
        obtain ⟨S2, hS2⟩ : ∃ S2, S2 = S' := ⟨_, rfl⟩
        have bk2 : BkAt K S0 S2 nd m la LA' lim b'.all .non := by rw [hS2]; exact bk'
        have hla2 := bk2.hla
        have hm2 := bk2.hm
        have hsp2 := hsp'
        obtain ⟨b2, hb2⟩ : ∃ b2, b2 = b' := ⟨_, rfl⟩
        rw [← hb2] at eb bk2 hsp2
        have sz2 : Sz b2 (c' + 1) := by rw [hb2]; exact sz'.le (Nat.le_succ _)
        have hj : 2 * (dropS t' rm).length < j ∧ c' + 1 + 1 + 2 * (2 * (dropS t' rm).length) ≤ c + 4 * tx.length + 4 := by
          rw [dl]
          split at ej <;> omega
        rw [← hS2]
        walk_at "nl"
    · have e1 : brkF lim (n + 1) b' t' = (b', t') := if_neg (by omega)
      rw [e1] at eb
      rw [if_pos h0, ← eb] at nx
      walk_at "fi"
  · rw [if_neg h0, if_neg h0] at eb
    rw [if_neg h0, ← eb] at nx
    walk_at "fi"
theorem bl_pw3 (T : Tx K mg) (m_Line_add : MetX P w K mg base 1 (He.ga K "Line") "add" (spD K (cLineAdd K)) []) (m_Breaker_last : MetX P w K mg base 1 (He.ga K "Breaker") "last" (spD K (cLast K)) [])
    (hr : Room 2 (A0.deeper (envOfC "Breaker.put_word" (defScope s_Breaker_put_word) s.heap.objs.size f cdv)))
    (h4 : ∃ t, PSs (pwx P w K mg base f cdv A0 outer s HE E) bd_pw4 (tDS K E e t) ∧ ∀ (D : DEnds) (S : Store) (S0 : Store) (nd m la pc : Addr) (LA : List (Addr × Addr)) (lim : Nat) (b : Bk) (p : Pc) (tx : Str) (c : Nat) (u3 u4 : Option Dt), BkAt K S0 S nd m la LA lim b.all .non → b.sp = false → S0 pc = some (pcC K p.kind p.text nd p.w) → Sz b c → c + 4 * tx.length + 10 ≤ 90000 →
      (∀ δ' S' LA', BkAt K S0 S' nd m la LA' lim (w4F p (if p.kind = "word" then brkF lim (2 * tx.length + 2) b tx else (b, tx))).all .non → D.nx δ' S') → t D [some (.ref m), some (.ref pc), some (.str tx), u3, u4] S) :
    ∃ t, PSs (pwx P w K mg base f cdv A0 outer s HE E) bd_pw3 (tDS K E e t) ∧ ∀ (D : DEnds) (S : Store) (S0 : Store) (nd m la pc : Addr) (LA : List (Addr × Addr)) (lim : Nat) (b : Bk) (p : Pc) (sp : Dt) (c : Nat) (u3 u4 : Option Dt), BkAt K S0 S nd m la LA lim b.all sp → SpOk K S0 nd b.sp sp → S0 pc = some (pcC K p.kind p.text nd p.w) → Sz b c → c + 4 * p.text.length + 11 ≤ 90000 →
      (∀ δ' S' LA', BkAt K S0 S' nd m la LA' lim (w4F p (w3F lim (w2F b) p)).all .non → D.nx δ' S') → t D [some (.ref m), some (.ref pc), some (.str p.text), u3, u4] S := by
  obtain ⟨t4, p_pw4, h_pw4⟩ := h4
  refine ⟨_, (dss_cons (ds_if (dt_cmp od_isNot (de_fld rfl (fd_Breaker_space T) (dv (pv 0))) de_non) (dss_cons (ds_expr (de_meth (nm := nm_Line) rfl m_Line_add (by decide +kernel) dfl_nil hr (by decide) paX (de_meth0 (nm := nm_Breaker) rfl m_Breaker_last (by decide +kernel) dfl_nil hr (by decide) paX (dv (pv 0))) (da_cons (de_fld rfl (fd_Breaker_space T) (dv (pv 0))) (da_cons de_str da_nil))))
  (dss_one (ds_fld rfl (fd_Breaker_space T) (dv (pv 0)) de_non))) dss_nil)
  p_pw4), fun D S S0 nd m la pc LA lim b p sp c u3 u4 bk hsp hpc sz hc nx => ?_⟩
  have hm := bk.hm
  have hsl := sz.l
  rcases hsp with ⟨hb, rfl⟩ | ⟨hb, sa, stx, sw, rfl, hsa⟩
  · have e2 : w2F b = b := if_neg (by rw [hb]; decide)
    rw [e2] at nx
    walk_at "go"
    exact h_pw4 _ _ S0 nd m la pc LA lim b p p.text c _ _ bk hb hpc sz (by omega) nx
  · have e2 : w2F b = ⟨b.L, addR b.l "space" " " 1, false⟩ := if_pos hb
    rw [e2] at nx
    have hla := bk.hla
    obtain ⟨X, a, r, eA, hx, hA, ha, hrr⟩ := bk.split
    have hlaX : S la = some (.lst (X.map (fun x => Dt.ref x.1) ++ [.ref a])) := by rw [hla, eA, List.map_append]; rfl
    have hsa' := bk.le _ _ hsa
    walk_at "go"
    refine ⟨m, lim, la, .ref sa, _, a, rfl, hm, hlaX, ?_⟩
    walk_at "go"
    refine ⟨a, r, b.l.w, b.l.runs, sa, "space", stx, nd, sw, " ", rfl, ha, hrr, hsa', by omega, fun wd hwd => ?_⟩
    rw [if_neg (by decide)] at hwd
    subst hwd
    have bk2 := bk.setL (l' := addR b.l "space" " " 1) hx hA
    have sz2 : Sz ⟨b.L, addR b.l "space" " " 1, false⟩ (c + 1) := sz.add _ _ _ _
    have bk2 : BkAt K S0 (sput (sput S r (.lst ((b.l.runs ++ [Run.mk b.l.w " " (" " : Str).length]).map (runD nd)))) a (lnC K r (b.l.w + (" " : Str).length))) nd m la LA lim (Bk.mk b.L (addR b.l "space" " " 1) false).all (.ref sa) := bk2
    generalize sput (sput S r (.lst ((b.l.runs ++ [Run.mk b.l.w " " (" " : Str).length]).map (runD nd)))) a (lnC K r (b.l.w + (" " : Str).length)) = S2 at bk2 ⊢
    have hm2 := bk2.hm
    walk_at "go"
    exact h_pw4 _ _ S0 nd m la pc LA lim _ p p.text (c + 1) _ _ (bk2.sps .non) rfl hpc sz2 (by omega) nx
def cPutW (K : PySem.W.Frag) : DSp := fun ds S q _ => ∃ S0 nd m la pc LA lim b p sp c, ds = [.ref m, .ref pc] ∧ BkAt K S0 S nd m la LA lim b.all sp ∧ SpOk K S0 nd b.sp sp ∧ S0 pc = some (pcC K p.kind p.text nd p.w) ∧ Sz b c ∧ c + 4 * p.text.length + 12 ≤ 90000 ∧ ∀ S' LA', BkAt K S0 S' nd m la LA' lim (wordF lim b p).all .non → q .non S'
end
section
variable {P : Program} {w : World} {K : PySem.W.Frag} {mg : Str → Option Value} {base : Heap}
theorem ok_put_word (T : Tx K mg) (k_Line : MakX P w K mg base 1 "Line" (He.ga K "Line") (spD K (cLineI K)) []) (m_Line_add : MetX P w K mg base 1 (He.ga K "Line") "add" (spD K (cLineAdd K)) []) (m_Breaker_last : MetX P w K mg base 1 (He.ga K "Breaker") "last" (spD K (cLast K)) [])
    {f : Addr} {fd : FuncData} (F : FunD K "put_word" "Breaker.put_word" (defArgs s_Breaker_put_word) (defBody s_Breaker_put_word) (defScope s_Breaker_put_word) [] [] f fd) : FnOk P w K mg base (L2.CX P w) 3 f fd ["self", "piece"] (spD K (cPutW K)) := by
  refine dfn 5 F sc_Breaker_put_word (fun ds S q e h => ?_) rfl (fun cdv A0 outer s H E e hr => ?_)
  · obtain ⟨_, _, _, _, _, _, _, _, _, _, _, rfl, _⟩ := h
    rfl
  · obtain ⟨t3, p_pw3, h_pw3⟩ := bl_pw3 (f := f) (cdv := cdv) (A0 := A0) (outer := outer) (s := s) (HE := H) (E := E) (e := e) T m_Line_add m_Breaker_last hr (bl_pw4 T k_Line m_Line_add m_Breaker_last hr)
    refine ⟨_, (dss_cons (ds_set (i := 2) sc_Breaker_put_word.nd rfl (Or.inl rfl) (de_fld rfl (fd_Piece_text T) (dv (pv 1))))
  (dss_cons (ds_set (i := 3) sc_Breaker_put_word.nd rfl (Or.inl rfl) (de_op (od_add rfl) (de_if (dt_cmp od_is (de_fld rfl (fd_Breaker_space T) (dv (pv 0))) de_non) de_int de_int) (de_fld rfl (fd_Piece_width T) (dv (pv 1)))))
  (dss_cons (ds_if (PW.pt (dt_and (dt_cmp (od_neN (hW_of hr)) (de_fld rfl (fd_Line_runs T) (de_meth0 (nm := nm_Breaker) rfl m_Breaker_last (by decide +kernel) dfl_nil hr (by decide) paX (dv (pv 0)))) (de_lst da_nil)) (dt_and (dt_cmp od_gt (de_op (od_add rfl) (de_fld rfl (fd_Line_width T) (de_meth0 (nm := nm_Breaker) rfl m_Breaker_last (by decide +kernel) dfl_nil hr (by decide) paX (dv (pv 0)))) (dv (pv 3))) (de_fld rfl (fd_Breaker_limit T) (dv (pv 0)))) (pw_and1 (dt_cmp od_isNot (de_fld rfl (fd_Breaker_space T) (dv (pv 0))) de_non))))) (dss_cons (ds_expr (de_bm rfl is_ls PySem.F.plainAttrs_list PySem.F.slot_list_append PySem.F.type_list_append md_append (de_fld rfl (fd_Breaker_lines T) (dv (pv 0))) (da_cons (de_make0 (nm := nm_Line) rfl k_Line dfl_nil hr (by decide) rfl paX) da_nil)))
  (dss_one (ds_fld rfl (fd_Breaker_space T) (dv (pv 0)) de_non))) dss_nil)
  p_pw3))), fun ds S q h => ?_⟩
    obtain ⟨S0, nd, m, la, pc, LA, lim, b, p, sp, c, rfl, bk, hsp, hpc, sz, hc, h⟩ := h
    have hm := bk.hm
    have hsl := sz.l
    have hla := bk.hla
    obtain ⟨X, a, r, eA, hx, hA, ha, hrr⟩ := bk.split
    have hlaX : S la = some (.lst (X.map (fun x => Dt.ref x.1) ++ [.ref a])) := by rw [hla, eA, List.map_append]; rfl
    have hpc' := bk.le _ _ hpc
    rcases hsp with ⟨hb, rfl⟩ | ⟨hb, sa, stx, sw, rfl, hsa⟩
    · have e1 : w1F lim b p = b := if_neg (fun z => by rw [hb] at z; cases z.2.2)
      have fin : ∀ (δ' : DS) S' LA', BkAt K S0 S' nd m la LA' lim (w4F p (w3F lim (w2F b) p)).all .non → q .non S' := fun _ S' LA' hb => h S' LA' (by unfold wordF; rw [e1]; exact hb)
      walk_at "go"
      refine ⟨m, lim, la, .non, _, a, rfl, hm, hlaX, ?_⟩
      walk_at "w"
      cases hz : (List.map (runD nd) b.l.runs).isEmpty with
      | true =>
        walk_at "go"
        rw [hz]
        walk_at "go"
        exact h_pw3 _ _ S0 nd m la pc LA lim b p .non c _ _ bk (.inl ⟨hb, rfl⟩) hpc sz (by omega) fin
      | false =>
        walk_at "go"
        rw [hz]
        walk_at "go"
        refine ⟨m, lim, la, .non, _, a, rfl, hm, hlaX, ?_⟩
        walk_at "go"
        refine ift (fun h1 => ?_) (fun h1 => ?_)
        · walk_at "go"
          exact h_pw3 _ _ S0 nd m la pc LA lim b p .non c _ _ bk (.inl ⟨hb, rfl⟩) hpc sz (by omega) fin
        · walk_at "go"
          exact h_pw3 _ _ S0 nd m la pc LA lim b p .non c _ _ bk (.inl ⟨hb, rfl⟩) hpc sz (by omega) fin
    · have hsp : SpOk K S0 nd b.sp (.ref sa) := .inr ⟨hb, sa, stx, sw, rfl, hsa⟩
      walk_at "go"
      refine ⟨m, lim, la, .ref sa, _, a, rfl, hm, hlaX, ?_⟩
      walk_at "w"
      cases hz : (List.map (runD nd) b.l.runs).isEmpty with
      | true =>
        have hz0 : b.l.runs = [] := by
          cases hq : b.l.runs with
          | nil => rfl
          | cons x y => rw [hq] at hz; cases hz
        have e1 : w1F lim b p = b := if_neg (fun z => z.1 hz0)
        have fin : ∀ (δ' : DS) S' LA', BkAt K S0 S' nd m la LA' lim (w4F p (w3F lim (w2F b) p)).all .non → q .non S' := fun _ S' LA' hb => h S' LA' (by unfold wordF; rw [e1]; exact hb)
        walk_at "go"
        rw [hz]
        walk_at "go"
        exact h_pw3 _ _ S0 nd m la pc LA lim b p (.ref sa) c _ _ bk hsp hpc sz (by omega) fin
      | false =>
        have hz0 : b.l.runs ≠ [] := fun hq => by rw [hq] at hz; cases hz
        walk_at "go"
        rw [hz]
        walk_at "go"
        refine ⟨m, lim, la, .ref sa, _, a, rfl, hm, hlaX, ?_⟩
        walk_at "go"
        refine ift (fun h1 => ?_) (fun h1 => ?_)
        · have e1 : w1F lim b p = ⟨b.L ++ [b.l], ln0, false⟩ := if_pos ⟨hz0, by rw [if_pos hb]; omega, hb⟩
          have fin : ∀ (δ' : DS) S' LA', BkAt K S0 S' nd m la LA' lim (w4F p (w3F lim (w2F ⟨b.L ++ [b.l], ln0, false⟩) p)).all .non → q .non S' := fun _ S' LA' hb => h S' LA' (by unfold wordF; rw [e1]; exact hb)
          walk_at "go"
          intro x hx0
          refine ⟨x, rfl, sput_same, fun y S3 hy nyx g1 g2 le => ⟨rfl, ?_⟩⟩
          obtain ⟨_, hy⟩ := sput_free hy
          have kp : ∀ q cell, S q = some cell → S3 q = some cell := fun q cell hq => le q cell (fun z => by rw [z, hx0] at hq; cases hq) (by rw [sput_ne (fun z => by rw [z, hx0] at hq; cases hq)]; exact hq)
          have hla3 := kp _ _ hla
          walk_at "go"
          refine ⟨by rw [List.length_map, bk.len, show b.all = b.L ++ [b.l] from rfl, List.length_append, List.length_singleton]; exact size6 (by omega), ?_⟩
          have bk2 := bk.new hx0 hy g1 g2 kp
          generalize sput S3 la (.lst ((LA.map fun x => Dt.ref x.1) ++ [.ref x])) = S4 at bk2 ⊢
          have hm4 := bk2.hm
          walk_at "go"
          exact h_pw3 _ _ S0 nd m la pc _ lim ⟨b.L ++ [b.l], ln0, false⟩ p .non (c + 1) _ _ (bk2.sps .non) (.inl ⟨rfl, rfl⟩) hpc (sz.nl _) (by omega) fin
        · have e1 : w1F lim b p = b := if_neg (fun z => h1 (by have := z.2.1; rw [if_pos hb] at this; omega))
          have fin : ∀ (δ' : DS) S' LA', BkAt K S0 S' nd m la LA' lim (w4F p (w3F lim (w2F b) p)).all .non → q .non S' := fun _ S' LA' hb => h S' LA' (by unfold wordF; rw [e1]; exact hb)
          walk_at "go"
          exact h_pw3 _ _ S0 nd m la pc LA lim b p (.ref sa) c _ _ bk hsp hpc sz (by omega) fin
end
end K05

open PySem PySem.Spec PyProof.Rows L2 Pr Dn LamX

namespace K05
theorem brkF_sp {lim : Nat} : ∀ n b t, (brkF lim n b t).1.sp = b.sp
  | 0, b, t => rfl
  | n + 1, b, t => by
    show (if _ then _ else _ : Bk × Str).1.sp = _
    split
    · rw [brkF_sp n]
      split <;> rfl
    · rfl
theorem wordF_sp {lim : Nat} {b : Bk} {p : Pc} : (wordF lim b p).sp = false := by
  have h2 : ∀ b : Bk, (w2F b).sp = false := fun b => by
    unfold w2F
    split
    · rfl
    · rename_i h
      simpa using h
  have h3 : ∀ b : Bk, (w3F lim b p).1.sp = b.sp := fun b => by
    unfold w3F
    split
    · exact brkF_sp _ _ _
    · rfl
  have h4 : ∀ r : Bk × Str, (w4F p r).sp = r.1.sp := fun r => by
    unfold w4F
    split <;> rfl
  unfold wordF
  rw [h4, h3, h2]
theorem brkF_sz {lim : Nat} : ∀ n b t c, Sz b c → Sz (brkF lim n b t).1 (c + 2 * n)
  | 0, b, t, c, h => h
  | n + 1, b, t, c, h => by
    show Sz (if _ then _ else _ : Bk × Str).1 _
    split
    · split
      · exact (brkF_sz n _ _ (c + 2) ((h.add _ _ _ _).nl _)).le (by omega)
      · exact (brkF_sz n _ _ (c + 1) (h.nl _)).le (by omega)
    · exact h.le (by omega)
theorem putF_sz {lim : Nat} {b : Bk} {p : Pc} {c : Nat} (h : Sz b c) : Sz (putF lim b p) (c + 4 * p.text.length + 8) := by
  unfold putF
  split
  · split
    · exact (show Sz ⟨b.L, b.l, true⟩ c from ⟨h.l, h.L⟩).le (by omega)
    · exact h.le (by omega)
  · split
    · exact (h.nl _).le (by omega)
    · have h1 : Sz (w1F lim b p) (c + 1) := by
        unfold w1F
        by_cases hh : b.l.runs ≠ [] ∧ b.l.w + ((if b.sp = true then 1 else 0) + p.w) > lim ∧ b.sp = true
        · rw [if_pos hh]; exact h.nl _
        · rw [if_neg hh]; exact h.le (Nat.le_succ c)
      have h2 : Sz (w2F (w1F lim b p)) (c + 2) := by
        unfold w2F
        split
        · exact h1.add _ _ _ _
        · exact h1.le (by omega)
      have h3 : Sz (w3F lim (w2F (w1F lim b p)) p).1 (c + 2 + 2 * (2 * p.text.length + 2)) := by
        unfold w3F
        split
        · exact brkF_sz _ _ _ _ h2
        · exact h2.le (by omega)
      unfold wordF w4F
      split
      · exact (h3.add _ _ _ _).le (by omega)
      · exact h3.le (by omega)
def cPut (K : PySem.W.Frag) : DSp := fun ds S q _ => ∃ S0 nd m la pc LA lim b p sp c, ds = [.ref m, .ref pc] ∧ BkAt K S0 S nd m la LA lim b.all sp ∧ SpOk K S0 nd b.sp sp ∧ S0 pc = some (pcC K p.kind p.text nd p.w) ∧ Sz b c ∧ c + 4 * p.text.length + 12 ≤ 90000 ∧
  ∀ S' LA' sp', BkAt K S0 S' nd m la LA' lim (putF lim b p).all sp' → SpOk K S0 nd (putF lim b p).sp sp' → q .non S'
section
variable {P : Program} {w : World} {K : PySem.W.Frag} {mg : Str → Option Value} {base : Heap}
theorem ok_put (T : Tx K mg) (k_Line : MakX P w K mg base 1 "Line" (He.ga K "Line") (spD K (cLineI K)) []) (m_Breaker_last : MetX P w K mg base 1 (He.ga K "Breaker") "last" (spD K (cLast K)) []) (m_Breaker_put_word : MetX P w K mg base 3 (He.ga K "Breaker") "put_word" (spD K (cPutW K)) [])
    {f : Addr} {fd : FuncData} (F : FunD K "put" "Breaker.put" (defArgs s_Breaker_put) (defBody s_Breaker_put) (defScope s_Breaker_put) [] [] f fd) : FnOk P w K mg base (L2.CX P w) 4 f fd ["self", "piece"] (spD K (cPut K)) := by
  refine dfn 2 F sc_Breaker_put (fun ds S q e h => ?_) rfl (fun cdv A0 outer s H E e hr => ⟨_, (dss_one (ds_if (dt_cmp (od_eq rfl (hU_of hr)) (de_fld rfl (fd_Piece_kind T) (dv (pv 1))) de_str) (dss_one (ds_if (dt_cmp (od_neN (hW_of hr)) (de_fld rfl (fd_Line_runs T) (de_meth0 (nm := nm_Breaker) rfl m_Breaker_last (by decide +kernel) dfl_nil hr (by decide) paX (dv (pv 0)))) (de_lst da_nil)) (dss_one (ds_fld rfl (fd_Breaker_space T) (dv (pv 0)) (dv (pv 1)))) dss_nil)) (dss_one (ds_if (dt_cmp (od_eq rfl (hU_of hr)) (de_fld rfl (fd_Piece_kind T) (dv (pv 1))) de_str) (dss_cons (ds_fld rfl (fd_Breaker_space T) (dv (pv 0)) de_non)
  (dss_one (ds_expr (de_bm rfl is_ls PySem.F.plainAttrs_list PySem.F.slot_list_append PySem.F.type_list_append md_append (de_fld rfl (fd_Breaker_lines T) (dv (pv 0))) (da_cons (de_make0 (nm := nm_Line) rfl k_Line dfl_nil hr (by decide) rfl paX) da_nil))))) (dss_one (ds_expr (de_meth (nm := nm_Breaker) rfl m_Breaker_put_word (by decide +kernel) dfl_nil hr (by decide) paX (dv (pv 0)) (da_cons (dv (pv 1)) da_nil)))))))), fun ds S q h => ?_⟩)
  · obtain ⟨_, _, _, _, _, _, _, _, _, _, _, rfl, _⟩ := h
    rfl
  · obtain ⟨S0, nd, m, la, pc, LA, lim, b, p, sp, c, rfl, bk, hsp, hpc, sz, hc, h⟩ := h
    have hm := bk.hm
    have hsl := sz.l
    have hla := bk.hla
    obtain ⟨X, a, r, eA, hx, hA, ha, hrr⟩ := bk.split
    have hlaX : S la = some (.lst (X.map (fun x => Dt.ref x.1) ++ [.ref a])) := by rw [hla, eA, List.map_append]; rfl
    have hpc' := bk.le _ _ hpc
    walk_at "go"
    refine ift (fun h0 => ?_) (fun h0 => ?_)
    · have e0 : putF lim b p = if b.l.runs ≠ [] then ⟨b.L, b.l, true⟩ else b := if_pos h0
      walk_at "go"
      refine ⟨m, lim, la, sp, _, a, rfl, hm, hlaX, ?_⟩
      walk_at "w"
      cases hz : (List.map (runD nd) b.l.runs).isEmpty with
      | true =>
        have hz0 : b.l.runs = [] := by
          cases hq : b.l.runs with
          | nil => rfl
          | cons x y => rw [hq] at hz; cases hz
        rw [if_neg (fun z => z hz0)] at e0
        walk_at "go"
        rw [hz]
        walk_at "go"
        rw [e0] at h
        exact h S LA sp bk hsp
      | false =>
        have hz0 : b.l.runs ≠ [] := fun hq => by rw [hq] at hz; cases hz
        rw [if_pos hz0] at e0
        walk_at "go"
        rw [hz]
        walk_at "go"
        rw [e0] at h
        exact h _ LA (.ref pc) (bk.sps (.ref pc)) (.inr ⟨rfl, pc, p.text, p.w, rfl, by rw [← h0]; exact hpc⟩)
    · walk_at "go"
      refine ift (fun h1 => ?_) (fun h1 => ?_)
      · have e0 : putF lim b p = ⟨b.L ++ [b.l], ln0, false⟩ := (if_neg h0).trans (if_pos h1)
        rw [e0] at h
        have bk1 := bk.sps .non
        walk_at "go"
        generalize sput S m (bkC K lim la .non) = S1 at bk1 ⊢
        have hm1 := bk1.hm
        have hla1 := bk1.hla
        walk_at "go"
        intro x hx0
        refine ⟨x, rfl, sput_same, fun y S3 hy nyx g1 g2 le => ⟨rfl, ?_⟩⟩
        obtain ⟨_, hy⟩ := sput_free hy
        have kp : ∀ q cell, S1 q = some cell → S3 q = some cell := fun q cell hq => le q cell (fun z => by rw [z, hx0] at hq; cases hq) (by rw [sput_ne (fun z => by rw [z, hx0] at hq; cases hq)]; exact hq)
        have hla3 := kp _ _ hla1
        walk_at "go"
        refine ⟨by rw [List.length_map, bk.len, show b.all = b.L ++ [b.l] from rfl, List.length_append, List.length_singleton]; exact size6 (by omega), ?_⟩
        walk_at "go"
        exact h _ _ .non (bk1.new hx0 hy g1 g2 kp) (.inl ⟨rfl, rfl⟩)
      · have e0 : putF lim b p = wordF lim b p := (if_neg h0).trans (if_neg h1)
        rw [e0] at h
        walk_at "go"
        exact ⟨S0, nd, m, la, pc, LA, lim, b, p, sp, c, rfl, bk, hsp, hpc, sz, hc, fun S' LA' hb => h S' LA' .non hb (.inl ⟨wordF_sp, rfl⟩)⟩
end
end K05

open PySem PySem.Spec PyProof.Rows L2 Pr Dn LamX

namespace K05
/-- lines in the store -/
structure LnsAt (K : PySem.W.Frag) (S0 S : Store) (nd : Addr) (LA : List (Addr × Addr)) (Ls : List Ln) : Prop where
  len : LA.length = Ls.length
  lns : ∀ (i : Nat) (a r : Addr) (ln : Ln), LA[i]? = some (a, r) → Ls[i]? = some ln → S a = some (lnC K r ln.w) ∧ S r = some (.lst (ln.runs.map (runD nd)))
  na : (LA.map (·.1)).Nodup
  nr : (LA.map (·.2)).Nodup
  le : Le S0 S
  fA : ∀ x ∈ LA, S0 x.1 = none
def shiftLn (align : Str) (w : Nat) (ln : Ln) : Ln := ⟨ln.runs.map (shiftR (if align = "left" then 0 else if align = "center" then (w - ln.w) / 2 else w - ln.w)), ln.w⟩
theorem BkAt.lnsA {K : PySem.W.Frag} {S0 S : Store} {nd m la : Addr} {LA : List (Addr × Addr)} {lim : Nat} {Ls : List Ln} {sp : Dt} (h : BkAt K S0 S nd m la LA lim Ls sp) : LnsAt K S0 S nd LA Ls := ⟨h.len, h.lns, h.na, h.nr, h.le, fun x hx => (h.fA x hx).1⟩
theorem LnsAt.front {K : PySem.W.Frag} {S0 S : Store} {nd : Addr} {X : List (Addr × Addr)} {x : Addr × Addr} {L : List Ln} {l : Ln} (h : LnsAt K S0 S nd (X ++ [x]) (L ++ [l])) : LnsAt K S0 S nd X L := by
  have hl := h.len
  rw [List.length_append, List.length_append, List.length_singleton, List.length_singleton] at hl
  have na := h.na
  have nr := h.nr
  rw [List.map_append] at na nr
  refine ⟨by omega, fun i a r ln h1 h2 => h.lns i a r ln (by rw [List.getElem?_append_left (List.getElem?_eq_some_iff.mp h1).1]; exact h1) (by rw [List.getElem?_append_left (List.getElem?_eq_some_iff.mp h2).1]; exact h2), (List.nodup_append.mp na).1, (List.nodup_append.mp nr).1, h.le, fun y hy => h.fA y (List.mem_append_left _ hy)⟩
theorem LnsAt.new {K : PySem.W.Frag} {S0 S : Store} {nd p : Addr} {LA : List (Addr × Addr)} {Ls : List Ln} {c : Cell} (h : LnsAt K S0 S nd LA Ls) (hp : S p = none) : LnsAt K S0 (sput S p c) nd LA Ls := by
  have ne : ∀ x c, S x = some c → x ≠ p := fun x c hx e => by rw [e, hp] at hx; cases hx
  refine ⟨h.len, fun i a r ln h1 h2 => ?_, h.na, h.nr, fun x c hx => by rw [sput_ne (ne x c (h.le x c hx))]; exact h.le x c hx, h.fA⟩
  obtain ⟨e1, e2⟩ := h.lns i a r ln h1 h2
  exact ⟨by rw [sput_ne (ne _ _ e1)]; exact e1, by rw [sput_ne (ne _ _ e2)]; exact e2⟩
/-- a line gets other runs -/
theorem LnsAt.shift {K : PySem.W.Frag} {S0 S : Store} {nd r' : Addr} {LA : List (Addr × Addr)} {Ls : List Ln} (h : LnsAt K S0 S nd LA Ls) {i : Nat} {a r : Addr} (hA : LA[i]? = some (a, r)) (hr : S r' = none) (ln : Ln) : LnsAt K S0 (sput (sput S r' (.lst (ln.runs.map (runD nd)))) a (lnC K r' ln.w)) nd (LA.set i (a, r')) (Ls.set i ln) := by
  have hi : i < Ls.length := by rw [← h.len]; exact (List.getElem?_eq_some_iff.mp hA).1
  have hiA : i < LA.length := (List.getElem?_eq_some_iff.mp hA).1
  obtain ⟨q1, q2⟩ := h.lns i a r _ hA (List.getElem?_eq_getElem hi)
  have ne : ∀ x c, S x = some c → x ≠ r' := fun x c hx e => by rw [e, hr] at hx; cases hx
  have ea : (LA.set i (a, r')).map (·.1) = LA.map (·.1) := by
    rw [List.map_set]
    refine List.ext_getElem? fun j => ?_
    rw [List.getElem?_set]
    by_cases hj : i = j
    · subst hj
      rw [if_pos rfl, if_pos (by rw [List.length_map]; exact hiA), List.getElem?_map, hA]
      rfl
    · rw [if_neg hj]
  refine ⟨by rw [List.length_set, List.length_set]; exact h.len, fun j b s ln' h1 h2 => ?_, by rw [ea]; exact h.na, ?_, fun x c hx => ?_, fun x hx => ?_⟩
  · by_cases hj : i = j
    · subst hj
      rw [List.getElem?_set_self hiA] at h1
      injection h1 with h1
      injection h1 with e1 e2
      subst e1; subst e2
      rw [List.getElem?_set_self hi] at h2
      injection h2 with h2
      subst h2
      exact ⟨sput_same, by rw [sput_ne (ne _ _ q1).symm, sput_same]⟩
    · rw [List.getElem?_set_ne hj] at h1 h2
      obtain ⟨e1, e2⟩ := h.lns j b s ln' h1 h2
      have nba : b ≠ a := fun e => hj (((List.getElem?_inj (List.getElem?_eq_some_iff.mp (show (LA.map (·.1))[i]? = some a by rw [List.getElem?_map, hA]; rfl)).1 h.na).mp ((show (LA.map (·.1))[i]? = some a by rw [List.getElem?_map, hA]; rfl).trans (show (LA.map (·.1))[j]? = some a by rw [List.getElem?_map, h1, ← e]; rfl).symm)))
      exact ⟨by rw [sput_ne nba, sput_ne (ne _ _ e1)]; exact e1, by rw [sput_ne (fun e => by rw [e, q1] at e2; cases e2), sput_ne (ne _ _ e2)]; exact e2⟩
  · refine List.pairwise_iff_getElem.mpr fun j k hj hk hjk => ?_
    rw [List.getElem_map, List.getElem_map, List.getElem_set, List.getElem_set]
    rw [List.length_map, List.length_set] at hj hk
    have old : ∀ (t : Nat) (ht : t < LA.length), LA[t].2 ≠ r' := fun t ht => by
      obtain ⟨_, e2⟩ := h.lns t LA[t].1 LA[t].2 _ (List.getElem?_eq_getElem ht) (List.getElem?_eq_getElem (by rw [← h.len]; exact ht))
      exact ne _ _ e2
    by_cases h1 : i = j
    · rw [if_pos h1, if_neg (by omega)]
      exact (old k hk).symm
    · rw [if_neg h1]
      by_cases h2 : i = k
      · rw [if_pos h2]
        exact old j hj
      · rw [if_neg h2]
        have := List.pairwise_iff_getElem.mp h.nr j k (by rw [List.length_map]; exact hj) (by rw [List.length_map]; exact hk) hjk
        rw [List.getElem_map, List.getElem_map] at this
        exact this
  · have fA := h.fA _ (List.mem_of_getElem? hA)
    rw [sput_ne (fun e => by rw [e, fA] at hx; cases hx), sput_ne (ne x c (h.le x c hx))]
    exact h.le x c hx
  · obtain ⟨j, hj⟩ := List.getElem?_of_mem hx
    rw [List.getElem?_set] at hj
    by_cases h1 : i = j
    · rw [if_pos h1, if_pos (by omega)] at hj
      injection hj with hj
      subst hj
      exact h.fA (a, r) (List.mem_of_getElem? hA)
    · rw [if_neg h1] at hj
      exact h.fA _ (List.mem_of_getElem? hj)
theorem brk_take {lim : Nat} {ps : List (Addr × Pc)} {i : Nat} {y : Addr × Pc} (h : ps[i]? = some y) : brk lim ((ps.take (i + 1)).map (·.2)) = putF lim (brk lim ((ps.take i).map (·.2))) y.2 := by
  unfold brk
  rw [List.take_add_one, h, List.map_append, List.foldl_append]
  rfl
theorem cut_initX {l : List Dt} : Dn.cutD l none (some (-1)) = l.dropLast := by
  unfold Dn.cutD
  rw [List.dropLast_eq_take]
  simp only [HT.sIx, List.drop_zero]
  congr 1
  simp
  omega
theorem get_align {align : Str} {n : Nat} (h : align = "left" ∨ align = "center" ∨ align = "right") : kGet (kMerge [] [((Sum.inr ("left" : Str) : Key), Dt.int 0), (Sum.inr ("center" : Str), Dt.int ((n : Int) / 2)), (Sum.inr ("right" : Str), Dt.int n)]) (Sum.inr align : Key) = some (.int ((if align = "left" then 0 else if align = "center" then n / 2 else n : Nat) : Int)) := by
  rcases h with rfl | rfl | rfl
  · rfl
  · rfl
  · rfl
def mixL (align : Str) (w : Nat) (Ls : List Ln) (i : Nat) : List Ln := (Ls.take i).map (shiftLn align w) ++ Ls.drop i
theorem mix_get {align : Str} {w : Nat} {Ls : List Ln} {i : Nat} (h : i < Ls.length) : (mixL align w Ls i)[i]? = Ls[i]? := by
  unfold mixL
  rw [List.getElem?_append_right (by rw [List.length_map, List.length_take]; omega), List.length_map, List.length_take, Nat.min_eq_left (Nat.le_of_lt h), Nat.sub_self, List.getElem?_drop]
  rfl
theorem mix_set {align : Str} {w : Nat} {Ls : List Ln} {i : Nat} {ln : Ln} (h : Ls[i]? = some ln) : (mixL align w Ls i).set i (shiftLn align w ln) = mixL align w Ls (i + 1) := by
  have hl := (List.getElem?_eq_some_iff.mp h).1
  unfold mixL
  rw [List.set_append_right _ _ (by rw [List.length_map, List.length_take]; omega), List.length_map, List.length_take, Nat.min_eq_left (Nat.le_of_lt hl), Nat.sub_self, List.take_add_one, h, List.map_append, List.append_assoc]
  congr 1
  rw [List.drop_eq_getElem_cons hl]
  rw [List.getElem?_eq_getElem hl] at h
  injection h with h
  rw [h]
  rfl
def cBreak (K : PySem.W.Frag) : DSp := fun ds S q _ => ∃ (x : Dt) (ps : List (Addr × Pc)) (nd : Addr) (w : Nat) (align : Str) (c : Nat), ds = [x, .int w, .str align] ∧ (x = .lst (ps.map fun y => .ref y.1) ∨ ∃ a, x = .ref a ∧ S a = some (.lst (ps.map fun y => .ref y.1))) ∧
  (∀ y ∈ ps, S y.1 = some (pcC K y.2.kind y.2.text nd y.2.w) ∧ 4 * y.2.text.length + 8 ≤ c) ∧ ps.length * c + c ≤ 80000 ∧ (align = "left" ∨ align = "center" ∨ align = "right") ∧
  ∀ S' p LA, LnsAt K S S' nd LA ((linesF (brk w (ps.map (·.2)))).map (shiftLn align w)) → S p = none → S' p = some (.lst (LA.map fun y => Dt.ref y.1)) → q (.ref p) S'
section
variable {P : Program} {w : World} {K : PySem.W.Frag} {mg : Str → Option Value} {base : Heap}
set_option hygiene false in
local macro_rules | `(tactic| walk_at "sh") => `(tactic| (
  walk_at "go"
  refine forGo_at (fun y : Addr × Addr => Dt.ref y.1) LF (fun i δ S' => ∃ LA' u6 u7, δ = [some xx, some (.int (w : Nat)), some (.str align), some (.ref m), u4, some (.ref p), u6, u7] ∧ LnsAt K S S' nd LA' (mixL align w Lf i) ∧ LA'.map (·.1) = LF.map (·.1) ∧ S' p = some (.lst (LF.map fun x => Dt.ref x.1))) (fun i δ S' hI => ?_) (fun i y δ S' hy hI nx kk => ?_) (fun δ S' hI => ?_) ⟨LF, none, none, rfl, by rw [show mixL align w Lf 0 = Lf from rfl]; exact hl0, rfl, hpl⟩
  · obtain ⟨_, _, _, _, _, _, hh⟩ := hI
    exact hh
  · obtain ⟨LA', u6, u7, rfl, hl, em, hpl'⟩ := hI
    have hiF := (List.getElem?_eq_some_iff.mp hy).1
    have hlen := hl0.len
    obtain ⟨r3, hA3⟩ : ∃ r3, LA'[i]? = some (y.1, r3) := by
      have e1 : (LA'.map (·.1))[i]? = some y.1 := by rw [em, List.getElem?_map, hy]; rfl
      rw [List.getElem?_map] at e1
      obtain ⟨⟨a3, r3⟩, e2, e3⟩ := Option.map_eq_some_iff.mp e1
      exact ⟨r3, by rw [e2]; exact congrArg some (Prod.ext e3 rfl)⟩
    obtain ⟨ln, hln⟩ : ∃ ln, Lf[i]? = some ln := ⟨_, List.getElem?_eq_getElem (by rw [← hlen]; exact hiF)⟩
    have hmix : (mixL align w Lf i)[i]? = some ln := (mix_get (by rw [← hlen]; exact hiF)).trans hln
    obtain ⟨g1, g2⟩ := hl.lns i y.1 r3 ln hA3 hmix
    have hrl := szf ln (List.mem_of_getElem? hln)
    walk_at "go"
    rw [show max 0 ((w : Int) - (ln.w : Int)) = ((w - ln.w : Nat) : Int) by omega]
    refine ⟨_, get_align hal, ?_⟩
    walk_at "go"
    refine ⟨y.1, r3, ln.w, ln.runs, nd, _, rfl, g1, g2, by omega, fun r' hr' => ?_⟩
    walk_at "go"
    have hl2 := hl.shift hA3 hr' (shiftLn align w ln)
    rw [mix_set hln] at hl2
    refine kk _ _ ⟨LA'.set i (y.1, r'), _, _, rfl, hl2, ?_, ?_⟩
    · rw [List.map_set, ← em]
      refine List.ext_getElem? fun j => ?_
      rw [List.getElem?_set]
      by_cases hj : i = j
      · subst hj
        rw [if_pos rfl, if_pos (by rw [List.length_map]; exact (List.getElem?_eq_some_iff.mp hA3).1), List.getElem?_map, hA3]
        rfl
      · rw [if_neg hj]
    · rw [sput_ne (fun z => by rw [z, g1] at hpl'; cases hpl'), sput_ne (fun z => by rw [z, hr'] at hpl'; cases hpl')]
      exact hpl'
  · obtain ⟨LA', u6, u7, rfl, hl, em, hpl'⟩ := hI
    walk_at "go"
    have e1 : mixL align w Lf LF.length = Lf.map (shiftLn align w) := by
      unfold mixL
      rw [hl0.len, List.take_length, List.drop_length, List.append_nil]
    rw [e1] at hl
    refine h _ p LA' hl fp ?_
    rw [show (LA'.map fun y => Dt.ref y.1) = LF.map fun x => Dt.ref x.1 from (by
      have := congrArg (List.map Dt.ref) em
      rw [List.map_map, List.map_map] at this
      exact this)]
    exact hpl'))
set_option hygiene false in
local macro_rules | `(tactic| walk_at "af") => `(tactic| (
  generalize brk w (ps.map (·.2)) = b at bk sz h
  have hm' := bk.hm
  have hla := bk.hla
  obtain ⟨X, a2, r2, eA, hx, hA, ha, hrr⟩ := bk.split
  have hlast : atI (LA.map fun x => Dt.ref x.1) (-1) = some (.ref a2) := atI_last (by rw [eA, List.map_append, List.length_append, List.length_map]; simp) (by rw [eA]; simp)
  walk_at "go"
  refine ⟨_, hlast, ?_⟩
  walk_at "w"
  have szL : ∀ l ∈ b.all, l.runs.length ≤ 90000 := fun l hl => by
    have g1 := sz.l
    rcases List.mem_append.mp hl with hl | hl
    · exact Nat.le_trans (sz.L l hl) (by omega)
    · rw [List.mem_singleton.mp hl]; omega
  have hall := bk.lnsA
  have hnum := bk.len
  have hbl : b.all.length = b.L.length + 1 := by show (b.L ++ [b.l]).length = _; rw [List.length_append, List.length_singleton]
  have sl := sz.l
  cases hz : (List.map (runD nd) b.l.runs).isEmpty with
  | true =>
    have hz0 : b.l.runs = [] := by
      cases hq : b.l.runs with
      | nil => rfl
      | cons x y => rw [hq] at hz; cases hz
    have eL : linesF b = b.L := if_pos hz0
    rw [eL] at h
    walk_at "go"
    rw [hz]
    walk_at "go"
    intro p hp
    have ecut : Dn.cutD (LA.map fun x => Dt.ref x.1) none (some (-1)) = X.map fun x => Dt.ref x.1 := by
      rw [cut_initX, eA, List.map_append]
      exact List.dropLast_concat
    rw [ecut]
    rw [eA] at hall
    have hl0 : LnsAt K S (sput S' p (.lst (X.map fun x => Dt.ref x.1))) nd X b.L := hall.front.new hp
    have hpl : sput S' p (.lst (X.map fun x => Dt.ref x.1)) p = some (.lst (X.map fun x => Dt.ref x.1)) := sput_same
    have fp : S p = none := by
      cases e : S p with
      | none => rfl
      | some c => rw [bk.le p c e] at hp; cases hp
    have szf : ∀ l ∈ b.L, l.runs.length ≤ 90000 := fun l hl => szL l (List.mem_append_left _ hl)
    generalize sput S' p (.lst (X.map fun x => Dt.ref x.1)) = S5 at hl0 hpl ⊢
    generalize b.L = Lf at hl0 szf h
    generalize X = LF at hl0 hpl ⊢
    walk_at "sh"
  | false =>
    have hz0 : b.l.runs ≠ [] := fun hq => by rw [hq] at hz; cases hz
    have eL : linesF b = b.all := if_neg hz0
    rw [eL] at h
    walk_at "go"
    rw [hz]
    have hl0 := hall
    have hpl := hla
    have fp := bk.fl
    have szf := szL
    generalize b.all = Lf at hl0 szf h
    generalize la = p at hpl fp ⊢
    obtain ⟨LF, eLF⟩ : ∃ LF, LF = LA := ⟨_, rfl⟩
    rw [← eLF] at hl0 hpl
    obtain ⟨S5, eS5⟩ : ∃ S5, S5 = S' := ⟨_, rfl⟩
    rw [← eS5] at hl0 hpl ⊢
    walk_at "sh"))
set_option hygiene false in
local macro_rules | `(tactic| walk_at "lp") => `(tactic| (
  walk_at "go"
  refine forGo_at (fun y : Addr × Pc => Dt.ref y.1) ps (fun i δ S' => ∃ x LA sp u4, δ = [some x, some (.int (w : Nat)), some (.str align), some (.ref m), u4, none, none, none] ∧ BkAt K S S' nd m la LA w (brk w ((ps.take i).map (·.2))).all sp ∧ SpOk K S nd (brk w ((ps.take i).map (·.2))).sp sp ∧ Sz (brk w ((ps.take i).map (·.2))) (i * c + 1)) (fun i δ S' hI => ?_) (fun i y δ S' hy hI nx kk => ?_) (fun δ S' hI => ?_) ⟨_, [(a, r)], .non, none, rfl, bk0', .inl ⟨rfl, rfl⟩, ⟨Nat.zero_le _, nofun⟩⟩
  · obtain ⟨_, _, _, _, _, bk, _⟩ := hI
    first
      | exact trivial
      | exact bk.le _ _ hpa
  · obtain ⟨xx, LA, sp, u4, rfl, bk, hsp, sz⟩ := hI
    have hil := (List.getElem?_eq_some_iff.mp hy).1
    obtain ⟨hpy, hcy⟩ := hps y (List.mem_of_getElem? hy)
    have hm' := bk.hm
    have hib : i * c + c ≤ ps.length * c := by
      have : (i + 1) * c ≤ ps.length * c := Nat.mul_le_mul_right c hil
      rw [Nat.succ_mul] at this
      exact this
    walk_at "go"
    refine ⟨S, nd, m, la, y.1, LA, w, _, y.2, sp, _, rfl, bk, hsp, hpy, sz, by omega, fun S2 LA2 sp2 bk2 hsp2 => ?_⟩
    walk_at "go"
    refine kk _ _ ⟨_, LA2, sp2, _, rfl, ?_⟩
    rw [brk_take hy]
    have e2 : (i + 1) * c = i * c + c := Nat.succ_mul i c
    exact ⟨bk2, hsp2, (putF_sz sz).le (by omega)⟩
  · obtain ⟨xx, LA, sp, u4, rfl, bk, _, sz⟩ := hI
    rw [List.take_length] at bk sz
    walk_at "af"))
theorem ok_break (T : Tx K mg) (k_Breaker : MakX P w K mg base 3 "Breaker" (He.ga K "Breaker") (spD K (cBkI K)) []) (m_Breaker_put : MetX P w K mg base 4 (He.ga K "Breaker") "put" (spD K (cPut K)) []) (m_Line_shift : MetX P w K mg base 1 (He.ga K "Line") "shift" (spD K (cShift K)) [])
    {f : Addr} {fd : FuncData} (F : FunD K "break_lines" "break_lines" (defArgs s_break_lines) (defBody s_break_lines) (defScope s_break_lines) [] [] f fd) : FnOk P w K mg base (L2.CX P w) 5 f fd ["pieces", "width", "align"] (spD K (cBreak K)) := by
  refine dfn 8 F sc_break_lines (fun ds S q e h => ?_) rfl (fun cdv A0 outer s H E e hr => ⟨_, (dss_cons (ds_set (i := 3) sc_break_lines.nd rfl (Or.inl rfl) (de_make (nm := nm_Breaker) rfl k_Breaker dfl_nil hr (by decide) rfl paX (da_cons (dv (pv 1)) da_nil)))
  (dss_cons (ds_for poX rfl (di_lst rfl (dv (pv 0))) (dg_name (i := 4) sc_break_lines.nd rfl (Or.inl rfl)) (dss_one (ds_expr (de_meth (nm := nm_Breaker) rfl m_Breaker_put (by decide +kernel) dfl_nil hr (by decide) paX (dv (pv 3)) (da_cons (dv (pv 4)) da_nil)))))
  (dss_cons (ds_set (i := 5) sc_break_lines.nd rfl (Or.inl rfl) (de_fld rfl (fd_Breaker_lines T) (dv (pv 3))))
  (dss_cons (ds_if (dt_cmp (od_eqN (hW_of hr)) (de_fld rfl (fd_Line_runs T) (de_ix rfl (dv (pv 5)) (de_neg de_int))) (de_lst da_nil)) (dss_one (ds_set (i := 5) sc_break_lines.nd rfl (Or.inl rfl) (de_slO rfl (dv (pv 5)) do_none (do_some (de_neg de_int))))) dss_nil)
  (dss_cons (ds_for poX rfl (di_lst rfl (dv (pv 5))) (dg_name (i := 6) sc_break_lines.nd rfl (Or.inl rfl)) (dss_cons (ds_set (i := 7) sc_break_lines.nd rfl (Or.inl rfl) (de_callB (cd_max rfl) (by rfl) T.b_max (by decide +kernel) (da_cons de_int (da_cons (de_op od_sub (dv (pv 1)) (de_fld rfl (fd_Line_width T) (dv (pv 6)))) da_nil))))
  (dss_one (ds_expr (de_meth (nm := nm_Line) rfl m_Line_shift (by decide +kernel) dfl_nil hr (by decide) paX (dv (pv 6)) (da_cons (de_dget (hu_of hr) (de_disp (dps_cons de_str de_int (dps_cons de_str (de_op od_fdiv (dv (pv 7)) de_int) (dps_cons de_str (dv (pv 7)) dps_nil))) (by rfl) (by rfl) (fun z => by cases z) (by decide)) (dv (pv 2)) (fun _ _ => rfl)) da_nil))))))
  (dss_one (ds_ret (dv (pv 5))))))))), fun ds S q h => ?_⟩)
  · obtain ⟨_, _, _, _, _, _, rfl, _⟩ := h
    rfl
  · obtain ⟨x, ps, nd, w, align, c, rfl, hx, hps, hc, hal, h⟩ := h
    walk_at "go"
    intro m hm
    refine ⟨m, w, rfl, sput_same, fun la a r S1 fla fa fr nla na nr nlr h1 h2 h3 h4 le1 => ⟨rfl, ?_⟩⟩
    obtain ⟨nlm, fla⟩ := sput_free fla
    obtain ⟨nam, fa⟩ := sput_free fa
    obtain ⟨nrm, fr⟩ := sput_free fr
    have le0 : Le S S1 := fun x c hx => le1 x c (fun e => by rw [e, hm] at hx; cases hx) (by rw [sput_ne (fun e => by rw [e, hm] at hx; cases hx)]; exact hx)
    have bk0' : BkAt K S S1 nd m la [(a, r)] w bk0.all .non := by
      refine ⟨h1, h2, rfl, fun i b s ln g1 g2 => ?_, by simp, by simp, fun hh => nlr (List.mem_singleton.mp hh), le0, hm, fla, fun x hx => by rw [List.mem_singleton.mp hx]; exact ⟨fa, fr⟩⟩
      have hi : i = 0 := by
        have := (List.getElem?_eq_some_iff.mp g1).1
        rw [List.length_singleton] at this
        omega
      subst hi
      have g1 : (a, r) = (b, s) := Option.some.inj g1
      have g2 : ln0 = ln := Option.some.inj g2
      injection g1 with e1 e2
      subst e1; subst e2; subst g2
      exact ⟨h3, h4⟩
    rcases hx with rfl | ⟨pa, rfl, hpa⟩
    · walk_at "lp"
    · have hpa1 := le0 _ _ hpa
      walk_at "lp"
end
end K05

open PySem PySem.Spec PyProof.Rows L2 Pr Dn LamX

namespace K05
def maxW (L : List Ln) : Nat := L.foldl (fun f l => max f l.w) 0
theorem maxW_take {L : List Ln} {i : Nat} {l : Ln} (h : L[i]? = some l) : maxW (L.take (i + 1)) = max (maxW (L.take i)) l.w := by
  unfold maxW
  rw [List.take_add_one, h, List.foldl_append]
  rfl
def cWidest (K : PySem.W.Frag) : DSp := fun ds S q _ => ∃ (ps : List (Addr × Pc)) (nd : Addr) (c : Nat), ds = [.lst (ps.map fun y => .ref y.1)] ∧
  (∀ y ∈ ps, S y.1 = some (pcC K y.2.kind y.2.text nd y.2.w) ∧ 4 * y.2.text.length + 8 ≤ c) ∧ ps.length * c + c ≤ 80000 ∧ ∀ S', Le S S' → q (.int (maxW (linesF (brk 100000 (ps.map (·.2)))) : Nat)) S'
def cTrans : DSp := fun ds S q _ => ∃ z wd, ds = [.str z, .str wd] ∧ ((wd = ("upper" : Str) ∧ z.length ≤ 5592405 ∧ SOk (Txt.upper z) ∧ q (.str (Txt.upper z)) S) ∨ (wd = ("none" : Str) ∧ q (.str z) S))
def shownV (fd : List (Str × Str)) (val : Str) (chk : Bool) : Str := if (aGet fd "type").getD "" = "checkbox" then (if chk = true then "[x]" else "[ ]") else if (aGet fd "type").getD "" = "hidden" then "" else (("[" : Str) ++ val) ++ "]"
def cShownV (K : PySem.W.Frag) : DSp := fun ds S q _ => ∃ a k tag tx t c par val chk fd, ds = [.ref a] ∧ S a = some (nodeC K k tag tx t c par (.str val) (.bl chk)) ∧ S t = some (.dic (dkD fd)) ∧ val.length ≤ 100000 ∧ q (.str (shownV fd val chk)) S
section
variable {P : Program} {w : World} {K : PySem.W.Frag} {mg : Str → Option Value} {base : Heap}
theorem ok_widest (T : Tx K mg) (c_break_lines : CalX P w K mg base 5 "break_lines" (spD K (cBreak K)) []) {f : Addr} {fd : FuncData} (F : FunD K "widest" "widest" (defArgs s_widest) (defBody s_widest) (defScope s_widest) [] [] f fd) : FnOk P w K mg base (L2.CX P w) 6 f fd ["pieces"] (spD K (cWidest K)) := by
  refine dfn 3 F sc_widest (fun ds S q e h => ?_) rfl (fun cdv A0 outer s H E e hr => ⟨_, (dss_cons (ds_set (i := 1) sc_widest.nd rfl (Or.inl rfl) de_int)
  (dss_cons (ds_for poX rfl (di_lst rfl (de_call rfl c_break_lines dfl_nil hr (by decide) rfl paX (da_cons (dv (pv 0)) (da_cons de_int (da_cons de_str da_nil))))) (dg_name (i := 2) sc_widest.nd rfl (Or.inl rfl)) (dss_one (ds_set (i := 1) sc_widest.nd rfl (Or.inl rfl) (de_callB (cd_max rfl) (by rfl) T.b_max (by decide +kernel) (da_cons (dv (pv 1)) (da_cons (de_fld rfl (fd_Line_width T) (dv (pv 2))) da_nil))))))
  (dss_one (ds_ret (dv (pv 1)))))), fun ds S q h => ?_⟩)
  · obtain ⟨_, _, _, rfl, _⟩ := h
    rfl
  · obtain ⟨ps, nd, c, rfl, hps, hc, h⟩ := h
    walk_at "go"
    refine ⟨_, ps, nd, 100000, "left", c, rfl, .inl rfl, hps, hc, .inl rfl, fun S' p LA hl fp hp => ?_⟩
    generalize hLs : (linesF (brk 100000 (ps.map (·.2)))).map (shiftLn "left" 100000) = Ls at hl
    walk_at "go"
    refine forGo_at (fun y : Addr × Addr => Dt.ref y.1) LA (fun i δ S2 => ∃ u2, δ = [some (.lst (ps.map fun y => .ref y.1)), some (.int (maxW (Ls.take i) : Nat)), u2] ∧ S2 = S') (fun i δ S2 hI => ?_) (fun i y δ S2 hy hI nx kk => ?_) (fun δ S2 hI => ?_) ⟨none, rfl, rfl⟩
    · obtain ⟨_, _, rfl⟩ := hI
      exact hp
    · obtain ⟨u2, rfl, rfl⟩ := hI
      obtain ⟨ln, hln⟩ : ∃ ln, Ls[i]? = some ln := ⟨_, List.getElem?_eq_getElem (by rw [← hl.len]; exact (List.getElem?_eq_some_iff.mp hy).1)⟩
      obtain ⟨g1, g2⟩ := hl.lns i y.1 y.2 ln hy hln
      walk_at "go"
      refine kk _ _ ⟨some (.ref y.1), ?_, rfl⟩
      rw [maxW_take hln, show ((max (maxW (Ls.take i)) ln.w : Nat) : Int) = max ((maxW (Ls.take i) : Nat) : Int) ((ln.w : Nat) : Int) by omega]
    · obtain ⟨u2, rfl, rfl⟩ := hI
      walk_at "go"
      have e1 : maxW (Ls.take LA.length) = maxW (linesF (brk 100000 (ps.map (·.2)))) := by
        rw [hl.len, List.take_length, ← hLs]
        unfold maxW
        rw [List.foldl_map]
        rfl
      rw [e1]
      exact h S2 hl.le
theorem ok_trans (T : Tx K mg) {f : Addr} {fd : FuncData} (F : FunD K "transformed" "transformed" (defArgs s_transformed) (defBody s_transformed) (defScope s_transformed) [] [] f fd) : FnOk P w K mg base (L2.CX P w) 1 f fd ["text", "word"] (spD K cTrans) := by
  refine dfn 2 F sc_transformed (fun ds S q e h => ?_) rfl (fun cdv A0 outer s H E e hr => ⟨_, (dss_cons (ds_if (dt_cmp (od_eq rfl (hU_of hr)) (dv (pv 1)) de_str) (dss_one (ds_ret (de_bm0 rfl is_tx PySem.F.plainAttrs_str PySem.F.slot_str_upper PySem.F.type_str_upper md_upper (dv (pv 0))))) dss_nil)
  (dss_one (ds_ret (de_if (dt_cmp (od_eq rfl (hU_of hr)) (dv (pv 1)) de_str) (de_bm0 rfl is_tx PySem.F.plainAttrs_str PySem.F.slot_str_lower PySem.F.type_str_lower md_lower (dv (pv 0))) (dv (pv 0)))))), fun ds S q h => ?_⟩)
  · obtain ⟨_, _, rfl, _⟩ := h
    rfl
  · obtain ⟨z, wd, rfl, ⟨rfl, hz, hu, h⟩ | ⟨rfl, h⟩⟩ := h
    · walk_at "go"
      exact h
    · walk_at "go"
      rw [decide_eq_false (show ¬ ("none" : Str) = "upper" by decide)]
      walk_at "go"
      rw [decide_eq_false (show ¬ ("none" : Str) = "lower" by decide)]
      walk_at "go"
      exact h
theorem ok_shownv (T : Tx K mg) (m_Node_attribute : MetX P w K mg base 1 (He.ga K "Node") "attribute" (spD K (cAttr K)) []) {f : Addr} {fd : FuncData} (F : FunD K "shown_value" "shown_value" (defArgs s_shown_value) (defBody s_shown_value) (defScope s_shown_value) [] [] f fd) : FnOk P w K mg base (L2.CX P w) 2 f fd ["node"] (spD K (cShownV K)) := by
  refine dfn 2 F sc_shown_value (fun ds S q e h => ?_) rfl (fun cdv A0 outer s H E e hr => ⟨_, (dss_cons (ds_set (i := 1) sc_shown_value.nd rfl (Or.inl rfl) (de_or rfl (de_meth (nm := nm_Node) rfl m_Node_attribute (by decide +kernel) dfl_nil hr (by decide) paX (dv (pv 0)) (da_cons de_str da_nil)) (pe_one de_str)))
  (dss_cons (ds_if (dt_cmp (od_eq rfl (hU_of hr)) (dv (pv 1)) de_str) (dss_one (ds_ret (de_if (de_tru rfl (de_fld rfl (fd_Node_checked T) (dv (pv 0)))) de_str de_str))) dss_nil)
  (dss_cons (ds_if (dt_cmp (od_eq rfl (hU_of hr)) (dv (pv 1)) de_str) (dss_one (ds_ret de_str)) dss_nil)
  (dss_one (ds_ret (de_joined (.cons de_str (.cons (de_fmt (de_fld rfl (fd_Node_value T) (dv (pv 0)))) (.cons de_str .nil))))))))), fun ds S q h => ?_⟩)
  · obtain ⟨_, _, _, _, _, _, _, _, _, _, rfl, _⟩ := h
    rfl
  · obtain ⟨a, k, tag, tx, t, c, par, val, chk, fd', rfl, ha, ht, hv, h⟩ := h
    walk_at "go"
    refine ⟨a, "type", k, tag, tx, t, c, par, _, _, fd', rfl, ha, ht, ?_⟩
    unfold shownV at h
    cases hg : aGet fd' "type" with
    | none =>
      rw [hg] at h
      rw [if_neg (by decide), if_neg (by decide)] at h
      walk_at "go"
      rw [decide_eq_false (show ¬ ("text" : Str) = "checkbox" by decide)]
      walk_at "go"
      rw [decide_eq_false (show ¬ ("text" : Str) = "hidden" by decide)]
      walk_at "go"
      refine ⟨Nat.le_of_lt (size6 (by rw [show (("" : Str) ++ "[").length = 1 from rfl]; omega)), ?_⟩
      walk_at "go"
      refine ⟨Nat.le_of_lt (size6 (by rw [app_len, show (("" : Str) ++ "[").length = 1 from rfl, show ("]" : Str).length = 1 from rfl]; omega)), ?_⟩
      walk_at "go"
      exact h
    | some v =>
      rw [hg] at h
      have h : q (.str (if v = "checkbox" then (if chk = true then "[x]" else "[ ]") else if v = "hidden" then "" else (("[" : Str) ++ val) ++ "]")) S := h
      walk_at "go"
      refine iftN (fun h0 => ?_) (fun h0 => ?_)
      · walk_at "go"
        refine ift (fun h1 => ?_) (fun h1 => ?_)
        · rw [if_pos h1] at h
          walk_at "go"
          refine ift_b (fun h2 => ?_) (fun h2 => ?_)
          · walk_at "go"
            rw [if_pos h2] at h
            exact h
          · walk_at "go"
            rw [if_neg (by rw [h2]; decide)] at h
            exact h
        · rw [if_neg h1] at h
          walk_at "go"
          refine ift (fun h2 => ?_) (fun h2 => ?_)
          · rw [if_pos h2] at h
            walk_at "go"
            exact h
          · rw [if_neg h2] at h
            walk_at "go"
            refine ⟨Nat.le_of_lt (size6 (by rw [show (("" : Str) ++ "[").length = 1 from rfl]; omega)), ?_⟩
            walk_at "go"
            refine ⟨Nat.le_of_lt (size6 (by rw [app_len, show (("" : Str) ++ "[").length = 1 from rfl, show ("]" : Str).length = 1 from rfl]; omega)), ?_⟩
            walk_at "go"
            exact h
      · subst h0
        rw [if_neg (by decide), if_neg (by decide)] at h
        walk_at "go"
        rw [decide_eq_false (show ¬ ("text" : Str) = "checkbox" by decide)]
        walk_at "go"
        rw [decide_eq_false (show ¬ ("text" : Str) = "hidden" by decide)]
        walk_at "go"
        refine ⟨Nat.le_of_lt (size6 (by rw [show (("" : Str) ++ "[").length = 1 from rfl]; omega)), ?_⟩
        walk_at "go"
        refine ⟨Nat.le_of_lt (size6 (by rw [app_len, show (("" : Str) ++ "[").length = 1 from rfl, show ("]" : Str).length = 1 from rfl]; omega)), ?_⟩
        walk_at "go"
        exact h
end
end K05

open PySem PySem.Spec PyProof.Rows L2 Pr Dn LamX

namespace K05
/-- the law's reading: lines ahead, the last line, whether a space waits -/
structure LL where
  L : List Str
  l : Str
  wt : Bool
def brkL (w : Nat) : Nat → List Str → Str → Str → List Str × Str × Str
  | 0, L, l, t => (L, l, t)
  | n + 1, L, l, t => if l.length + t.length > w then brkL w n (L ++ [l ++ takeS t (w - l.length)]) "" (dropS t (w - l.length)) else (L, l, t)
def w1L (w : Nat) (s : LL) (t : Str) : List Str × Str :=
  if (s.wt = true ∧ s.l.length + 1 + t.length ≤ w) ∨ (s.wt = true ∧ s.l = "") then (s.L, if s.l ≠ ("" : Str) then s.l ++ (" " : Str) else s.l) else if s.wt = true then (s.L ++ [s.l], ("" : Str)) else (s.L, s.l)
def w2L (w : Nat) (kind : Str) (x : List Str × Str) (t : Str) : LL :=
  if kind = "word" then ⟨(brkL w (2 * t.length + 2) x.1 x.2 t).1, (brkL w (2 * t.length + 2) x.1 x.2 t).2.1 ++ (brkL w (2 * t.length + 2) x.1 x.2 t).2.2, false⟩ else ⟨x.1, x.2 ++ t, false⟩
def stepL (w : Nat) (s : LL) (y : Str × Str) : LL :=
  if y.1 = "space" then ⟨s.L, s.l, s.wt || !decide (s.l = "")⟩
  else if y.1 = "end" then ⟨s.L ++ [s.l], "", false⟩
  else w2L w y.1 (w1L w s y.2) y.2
def lawS (w : Nat) (rows : List (Str × Str)) : LL := rows.foldl (stepL w) ⟨[], "", false⟩
def lawF (w : Nat) (rows : List (Str × Str)) : List Str := if (lawS w rows).l = "" then (lawS w rows).L else (lawS w rows).L ++ [(lawS w rows).l]
@[reducible] def rowD (y : Str × Str) : Dt := .tup [.str y.1, .str y.2]
theorem latI {L : List Str} {l : Str} : atI ((L ++ [l]).map Dt.str) ((((L ++ [l]).map Dt.str).length : Int) - 1) = some (.str l) := by
  rw [List.length_map, List.length_append, List.length_singleton, show (((L.length + 1 : Nat) : Int) - 1) = (L.length : Int) by omega]
  exact atI_nat (by rw [List.getElem?_map, List.getElem?_append_right (Nat.le_refl _), Nat.sub_self]; rfl)
def cLines (K : PySem.W.Frag) : DSp := fun ds S q _ => ∃ (a : Addr) (rows : List (Str × Str)) (w c : Nat), ds = [.ref a, .int w] ∧ S a = some (.lst (rows.map rowD)) ∧ 1 ≤ w ∧ (∀ y ∈ rows, 4 * y.2.length + 8 ≤ c) ∧ rows.length * c + c ≤ 80000 ∧ ∀ S' p, Le S S' → S p = none → S' p = some (.lst ((lawF w rows).map Dt.str)) → q (.ref p) S'
section
variable {P : Program} {w : World} {K : PySem.W.Frag} {mg : Str → Option Value} {base : Heap}
theorem ixL {L : List Str} {l : Str} : ixN ((L ++ [l]).map Dt.str).length ((((L ++ [l]).map Dt.str).length : Int) - 1) = some L.length := by
  rw [List.length_map, List.length_append, List.length_singleton, show (((L.length + 1 : Nat) : Int) - 1) = (L.length : Int) by omega]
  unfold ixN
  simp
  omega
theorem setL {L : List Str} {l l' : Str} : ((L ++ [l]).map Dt.str).set L.length (.str l') = (L ++ [l']).map Dt.str := by
  rw [List.map_append, List.map_append, List.set_append_right _ _ (by rw [List.length_map]; exact Nat.le_refl _), List.length_map, Nat.sub_self]
  rfl
abbrev llx (P : Program) (w : World) (K : PySem.W.Frag) (mg : Str → Option Value) (base : Heap) (f : Addr) (cdv : Value) (A : Around) (outer : List Env) (s : Shared) (HE : Hp) (E : XK) : Cx := cxOf (L2.CX P w) P w K mg base sl_law_lines "_law_lines" (defScope s_law_lines) f cdv A outer s HE E
def stFor : Stmt → List Stmt
  | .For _ _ b _ _ => b
  | _ => []
def stElse : Stmt → List Stmt
  | .If _ _ e _ => e
  | _ => []
def nth (l : List Stmt) (i : Nat) : Stmt := l.getD i (.Pass ⟨0, 0, 0, 0⟩)
def bd_lw : List Stmt := (stElse (nth (stElse (nth (stFor (nth (defBody s_law_lines) 1)) 1)) 0)).drop 1
theorem str_pos {z : Str} (h : z ≠ "") : 0 < z.length := by
  rcases Nat.eq_zero_or_pos z.length with e | e
  · refine absurd ?_ h
    obtain ⟨⟨l⟩⟩ := z
    cases l with
    | nil => rfl
    | cons a b => cases e
  · exact e
theorem takeS_len {t : Str} {n : Nat} : (takeS t n).length ≤ t.length := by
  unfold takeS cutS
  rw [HT.sIx_none, HT.sIx_nat]
  show ((t.cps.toList.drop 0).take (min n t.length - 0)).toArray.size ≤ _
  rw [List.size_toArray, List.length_take, List.length_drop, Array.length_toList]
  have : t.cps.size = t.length := rfl
  omega
set_option hygiene false in
local macro_rules | `(tactic| walk_at "lf") => `(tactic| (
  walk_at "go"
  refine ⟨_, latI, ?_⟩
  walk_at "go"
  refine ⟨_, ixL, ?_⟩
  rw [setL]
  walk_at "go"
  refine nx _ p' _ _ (le'.put hp') hp' sput_same ?_
  show L'.length + (l' ++ t').length ≤ _
  rw [app_len]
  omega))
theorem bl_lw (T : Tx K mg) {f : Addr} {cdv : Value} {A0 : Around} {outer : List Env} {s : Shared} {HE : Hp} {E : XK} {e : DX} (hr : Room 0 (A0.deeper (envOfC "_law_lines" (defScope s_law_lines) s.heap.objs.size f cdv))) :
    ∃ t, PSs (llx P w K mg base f cdv A0 outer s HE E) bd_lw (tDS K E e t) ∧ ∀ (D : DEnds) (S S1 : Store) (ra p : Addr) (w : Nat) (L : List Str) (l0 l : Str) (kind tx : Str) (u3 u7 : Option Dt), 1 ≤ w → Le S S1 → S p = none → S1 p = some (.lst ((L ++ [l0]).map Dt.str)) → L.length + l.length + 4 * tx.length + 10 ≤ 90000 →
      (∀ S2 p2 u5 u7, Le S S2 → S p2 = none → S2 p2 = some (.lst (((w2L w kind (L, l) tx).L ++ [(w2L w kind (L, l) tx).l]).map Dt.str)) → (w2L w kind (L, l) tx).L.length + (w2L w kind (L, l) tx).l.length ≤ L.length + l.length + 4 * tx.length + 4 → D.nx [some (.ref ra), some (.int w), some (.ref p2), some (.bl false), some (.str kind), u5, some (.str l), u7] S2) →
      t D [some (.ref ra), some (.int w), some (.ref p), u3, some (.str kind), some (.str tx), some (.str l), u7] S1 := by
  refine ⟨_, (dss_cons (ds_asg (de_tup (da_cons (dv (pv 6)) (da_cons de_bl da_nil))) (dg_tup (n := 2) rfl rfl (dgs_cons (dg_subL (dv (pv 2)) (de_op od_sub (de_callB (cd_len rfl) (by rfl) T.b_len (by decide +kernel) (da_cons (dv (pv 2)) da_nil)) de_int)) (dgs_cons (dg_name (i := 3) sc_law_lines.nd rfl (Or.inl rfl)) dgs_nil))))
  (dss_cons (ds_while poX (PW.pt (dt_and (dt_cmp (od_eq rfl (hU_of hr)) (dv (pv 4)) de_str) (pw_and1 (dt_cmp od_gt (de_op (od_add rfl) (de_callB (cd_len rfl) (by rfl) T.b_len (by decide +kernel) (da_cons (de_ix rfl (dv (pv 2)) (de_op od_sub (de_callB (cd_len rfl) (by rfl) T.b_len (by decide +kernel) (da_cons (dv (pv 2)) da_nil)) de_int)) da_nil)) (de_callB (cd_len rfl) (by rfl) T.b_len (by decide +kernel) (da_cons (dv (pv 5)) da_nil))) (dv (pv 1)))))) (dss_cons (ds_set (i := 7) sc_law_lines.nd rfl (Or.inl rfl) (de_callB (cd_max rfl) (by rfl) T.b_max (by decide +kernel) (da_cons de_int (da_cons (de_op od_sub (dv (pv 1)) (de_callB (cd_len rfl) (by rfl) T.b_len (by decide +kernel) (da_cons (de_ix rfl (dv (pv 2)) (de_op od_sub (de_callB (cd_len rfl) (by rfl) T.b_len (by decide +kernel) (da_cons (dv (pv 2)) da_nil)) de_int)) da_nil))) da_nil))))
  (dss_cons (ds_asg (de_op (od_add rfl) (de_ix rfl (dv (pv 2)) (de_op od_sub (de_callB (cd_len rfl) (by rfl) T.b_len (by decide +kernel) (da_cons (dv (pv 2)) da_nil)) de_int)) (de_sl rfl (dv (pv 5)) do_none (do_some (dv (pv 7))))) (dg_subL (dv (pv 2)) (de_op od_sub (de_callB (cd_len rfl) (by rfl) T.b_len (by decide +kernel) (da_cons (dv (pv 2)) da_nil)) de_int)))
  (dss_one (ds_par (i := 5) (j := 2) (by rfl) sc_law_lines.nd rfl rfl (by decide) rfl rfl (da_cons (de_sl rfl (dv (pv 5)) (do_some (dv (pv 7))) do_none) (da_cons (de_op od_addO (dv (pv 2)) (de_lst (da_cons de_str da_nil))) da_nil)) (by rfl))))))
  (dss_one (ds_asg (de_op (od_add rfl) (de_ix rfl (dv (pv 2)) (de_op od_sub (de_callB (cd_len rfl) (by rfl) T.b_len (by decide +kernel) (da_cons (dv (pv 2)) da_nil)) de_int)) (dv (pv 5))) (dg_subL (dv (pv 2)) (de_op od_sub (de_callB (cd_len rfl) (by rfl) T.b_len (by decide +kernel) (da_cons (dv (pv 2)) da_nil)) de_int)))))), fun D S S1 ra p w L l0 l kind tx u3 u7 hw le hp hl hb nx => ?_⟩
  walk_at "go"
  refine ⟨_, ixL, ?_⟩
  rw [setL]
  have le2 : Le S (sput S1 p (.lst ((L ++ [l]).map Dt.str))) := le.put hp
  have hl2 : sput S1 p (.lst ((L ++ [l]).map Dt.str)) p = some (.lst ((L ++ [l]).map Dt.str)) := sput_same
  generalize sput S1 p (.lst ((L ++ [l]).map Dt.str)) = S2 at le2 hl2 ⊢
  walk_at "go"
  refine ⟨fun j δ S' => ∃ L' l' t' p' n u7, j = 2 * t'.length + (if l' = ("" : Str) then 0 else 1) ∧ j < n ∧ (if kind = "word" then brkL w n L' l' t' else (L', l', t')) = (if kind = "word" then brkL w (2 * tx.length + 2) L l tx else (L, l, tx)) ∧ Le S S' ∧ S p' = none ∧ S' p' = some (.lst ((L' ++ [l']).map Dt.str)) ∧ L'.length + l'.length + j ≤ L.length + l.length + 2 * tx.length + 1 ∧ δ = [some (.ref ra), some (.int (w : Nat)), some (.ref p'), some (.bl false), some (.str kind), some (.str t'), some (.str l), u7], ⟨_, L, l, tx, p, 2 * tx.length + 2, u7, rfl, by split <;> omega, rfl, le2, hp, hl2, by split <;> omega, rfl⟩, fun j δ S' hI => ?_⟩
  obtain ⟨L', l', t', p', n, u7, ej, hn, eb, le', hp', hl', hc', rfl⟩ := hI
  obtain ⟨n, rfl⟩ : ∃ n', n = n' + 1 := ⟨n - 1, by omega⟩
  have hj2 : 2 * t'.length ≤ j := by omega
  walk_at "go"
  refine ift (fun h0 => ?_) (fun h0 => ?_)
  · rw [if_pos h0, if_pos h0] at eb
    walk_at "go"
    refine ⟨_, latI, ?_⟩
    walk_at "go"
    refine ift (fun h1 => ?_) (fun h1 => ?_)
    · obtain ⟨rm, hrm⟩ : ∃ rm, rm = w - l'.length := ⟨_, rfl⟩
      have e1 : brkL w (n + 1) L' l' t' = brkL w n (L' ++ [l' ++ takeS t' rm]) "" (dropS t' rm) := by rw [hrm]; exact if_pos (by omega)
      rw [e1] at eb
      have dl := dropS_len (t := t') (n := rm)
      have tl : (cutS t' none (some (rm : Int))).length ≤ t'.length := takeS_len
      walk_at "go"
      refine ⟨_, latI, ?_⟩
      walk_at "go"
      rw [show max 0 ((w : Int) - (l'.length : Int)) = ((rm : Nat) : Int) by omega]
      refine ⟨_, latI, ?_⟩
      walk_at "go"
      refine ⟨_, ixL, ?_⟩
      rw [setL]
      have le3 : Le S (sput S' p' (.lst ((L' ++ [l' ++ cutS t' none (some (rm : Int))]).map Dt.str))) := le'.put hp'
      have hl3 : sput S' p' (.lst ((L' ++ [l' ++ cutS t' none (some (rm : Int))]).map Dt.str)) p' = some (.lst ((L' ++ [l' ++ cutS t' none (some (rm : Int))]).map Dt.str)) := sput_same
      generalize sput S' p' (.lst ((L' ++ [l' ++ cutS t' none (some (rm : Int))]).map Dt.str)) = S3 at le3 hl3 ⊢
      walk_at "go"
      refine ⟨by rw [List.length_map, List.length_append, List.length_singleton]; exact Nat.le_of_lt (size6 (by show L'.length + 1 + 1 ≤ _; omega)), fun p2 hp2 => ?_⟩
      have fp2 : S p2 = none := by
        cases e : S p2 with
        | none => rfl
        | some c => rw [le3 p2 c e] at hp2; cases hp2
      walk_at "go"
      have hj : 2 * (dropS t' rm).length < j := by
        rw [dl]
        split at ej
        · rename_i hz
          rw [hz, show ("" : Str).length = 0 from rfl] at hrm h1
          omega
        · rename_i hz
          have : 0 < l'.length := str_pos hz
          omega
      refine ⟨_, ?_, L' ++ [l' ++ takeS t' rm], "", dropS t' rm, p2, n, _, rfl, ?_, by rw [if_pos h0, if_pos h0]; exact eb, le3.put fp2, fp2, ?_, ?_, rfl⟩
      · rw [if_pos rfl]; omega
      · rw [if_pos rfl]; omega
      · rw [sput_same, List.map_append (l₁ := L' ++ [l' ++ takeS t' rm])]
        rfl
      · rw [if_pos rfl, List.length_append, List.length_singleton, show ("" : Str).length = 0 from rfl]
        omega
    · have e1 : brkL w (n + 1) L' l' t' = (L', l', t') := if_neg (by omega)
      rw [e1] at eb
      have ew : w2L w kind (L, l) tx = ⟨L', l' ++ t', false⟩ := (if_pos h0).trans (by rw [← eb])
      rw [ew] at nx
      walk_at "lf"
  · rw [if_neg h0, if_neg h0] at eb
    have ew : w2L w kind (L, l) tx = ⟨L', l' ++ t', false⟩ := (if_neg h0).trans (by injection eb with e1 e2; injection e2 with e2 e3; rw [e1, e2, e3])
    rw [ew] at nx
    walk_at "lf"
theorem ok_lines (T : Tx K mg) {f : Addr} {fd : FuncData} (F : FunD K "_law_lines" "_law_lines" (defArgs s_law_lines) (defBody s_law_lines) (defScope s_law_lines) [] [] f fd) : FnOk P w K mg base (L2.CX P w) 1 f fd ["rows", "width"] (spD K (cLines K)) := by
  refine dfn 8 F sc_law_lines (fun ds S q e h => ?_) rfl (fun cdv A0 outer s H E e hr => ?_)
  · obtain ⟨_, _, _, _, rfl, _⟩ := h
    rfl
  · obtain ⟨t, p_lw, h_lw⟩ := bl_lw (E := E) (HE := H) (s := s) (outer := outer) (e := e) T hr
    refine ⟨_, (dss_cons (ds_par (i := 2) (j := 3) (by rfl) sc_law_lines.nd rfl rfl (by decide) rfl rfl (da_cons (de_lstO (da_cons de_str da_nil)) (da_cons de_bl da_nil)) (by rfl))
  (dss_cons (ds_for poX rfl (di_lst rfl (dv (pv 0))) (dg_tup (n := 2) rfl rfl (dgs_cons (dg_name (i := 4) sc_law_lines.nd rfl (Or.inl rfl)) (dgs_cons (dg_name (i := 5) sc_law_lines.nd rfl (Or.inl rfl)) dgs_nil))) (dss_cons (ds_set (i := 6) sc_law_lines.nd rfl (Or.inl rfl) (de_ix rfl (dv (pv 2)) (de_op od_sub (de_callB (cd_len rfl) (by rfl) T.b_len (by decide +kernel) (da_cons (dv (pv 2)) da_nil)) de_int)))
  (dss_one (ds_if (dt_cmp (od_eq rfl (hU_of hr)) (dv (pv 4)) de_str) (dss_one (ds_set (i := 3) sc_law_lines.nd rfl (Or.inl rfl) (de_or rfl (dv (pv 3)) (pe_one (de_cmp (od_ne rfl (hU_of hr)) (dv (pv 6)) de_str))))) (dss_one (ds_if (dt_cmp (od_eq rfl (hU_of hr)) (dv (pv 4)) de_str) (dss_one (ds_par (i := 2) (j := 3) (by rfl) sc_law_lines.nd rfl rfl (by decide) rfl rfl (da_cons (de_op od_addO (dv (pv 2)) (de_lst (da_cons de_str da_nil))) (da_cons de_bl da_nil)) (by rfl))) (dss_cons (ds_if (PW.pt (dt_or (PW.pt (dt_and (de_tru rfl (dv (pv 3))) (pw_and1 (dt_cmp od_le (de_op (od_add rfl) (de_op (od_add rfl) (de_callB (cd_len rfl) (by rfl) T.b_len (by decide +kernel) (da_cons (dv (pv 6)) da_nil)) de_int) (de_callB (cd_len rfl) (by rfl) T.b_len (by decide +kernel) (da_cons (dv (pv 5)) da_nil))) (dv (pv 1)))))) (pw_or1 (PW.pt (dt_and (de_tru rfl (dv (pv 3))) (pw_and1 (dt_cmp (od_eq rfl (hU_of hr)) (dv (pv 6)) de_str))))))) (dss_one (ds_set (i := 6) sc_law_lines.nd rfl (Or.inl rfl) (de_op (od_add rfl) (dv (pv 6)) (de_op od_mul de_str (de_callTy cd_int (by rfl) T.b_int (by decide +kernel) (da_cons (de_cmp (od_ne rfl (hU_of hr)) (dv (pv 6)) de_str) da_nil)))))) (dss_one (ds_if (de_tru rfl (dv (pv 3))) (dss_one (ds_par (i := 2) (j := 6) (by rfl) sc_law_lines.nd rfl rfl (by decide) rfl rfl (da_cons (de_op od_addO (dv (pv 2)) (de_lst (da_cons de_str da_nil))) (da_cons de_str da_nil)) (by rfl))) dss_nil)))
  p_lw)))))))
  (dss_one (ds_ret (de_if (dt_cmp (od_eq rfl (hU_of hr)) (de_ix rfl (dv (pv 2)) (de_op od_sub (de_callB (cd_len rfl) (by rfl) T.b_len (by decide +kernel) (da_cons (dv (pv 2)) da_nil)) de_int)) de_str) (de_slO rfl (dv (pv 2)) do_none (do_some (de_neg de_int))) (dv (pv 2))))))), fun ds S q h => ?_⟩
    obtain ⟨ra, rows, w, c, rfl, hra, hw, hrow, hc, h⟩ := h
    walk_at "go"
    intro p0 hp0
    have le0 : Le S (sput S p0 (.lst [.str ""])) := Le.refl.put hp0
    have hl0 : sput S p0 (.lst [.str ""]) p0 = some (.lst (([] ++ [("" : Str)]).map Dt.str)) := sput_same
    generalize sput S p0 (.lst [.str ""]) = S1 at le0 hl0 ⊢
    have hra1 := le0 _ _ hra
    walk_at "go"
    refine forGo_at rowD rows (fun i δ S' => ∃ p u4 u5 u6 u7, δ = [some (.ref ra), some (.int (w : Nat)), some (.ref p), some (.bl (lawS w (rows.take i)).wt), u4, u5, u6, u7] ∧ Le S S' ∧ S p = none ∧ S' p = some (.lst (((lawS w (rows.take i)).L ++ [(lawS w (rows.take i)).l]).map Dt.str)) ∧ (lawS w (rows.take i)).L.length + (lawS w (rows.take i)).l.length ≤ i * c + 1) (fun i δ S' hI => ?_) (fun i y δ S' hy hI nx kk => ?_) (fun δ S' hI => ?_) ⟨p0, none, none, none, none, rfl, le0, hp0, hl0, by show 0 ≤ _; omega⟩
    · obtain ⟨_, _, _, _, _, _, le, _⟩ := hI
      exact le _ _ hra
    · obtain ⟨p, u4, u5, u6, u7, rfl, le, hp, hl, hn⟩ := hI
      have hil := (List.getElem?_eq_some_iff.mp hy).1
      have es : lawS w (rows.take (i + 1)) = stepL w (lawS w (rows.take i)) y := by
        unfold lawS
        rw [List.take_add_one, hy, List.foldl_append]
        rfl
      rw [es] at kk
      generalize lawS w (rows.take i) = s at hl hn kk
      have hcy := hrow y (List.mem_of_getElem? hy)
      have hib : i * c + c ≤ rows.length * c := by
        have : (i + 1) * c ≤ rows.length * c := Nat.mul_le_mul_right c hil
        rw [Nat.succ_mul] at this
        exact this
      walk_at "go"
      refine ⟨_, latI, ?_⟩
      walk_at "go"
      refine ift (fun h0 => ?_) (fun h0 => ?_)
      · have e0 : stepL w s y = ⟨s.L, s.l, s.wt || !decide (s.l = "")⟩ := if_pos h0
        rw [e0] at kk
        walk_at "go"
        cases hwt : s.wt with
        | true =>
          walk_at "go"
          refine kk _ _ ⟨p, some (.str y.1), some (.str y.2), some (.str s.l), u7, ?_, le, hp, hl, by rw [Nat.succ_mul]; exact Nat.le_trans hn (by omega)⟩
          rw [hwt]
          rfl
        | false =>
          walk_at "go"
          refine kk _ _ ⟨p, some (.str y.1), some (.str y.2), some (.str s.l), u7, ?_, le, hp, hl, by rw [Nat.succ_mul]; exact Nat.le_trans hn (by omega)⟩
          rw [hwt]
          rfl
      · walk_at "go"
        refine ift (fun h1 => ?_) (fun h1 => ?_)
        · have e0 : stepL w s y = ⟨s.L ++ [s.l], "", false⟩ := (if_neg h0).trans (if_pos h1)
          rw [e0] at kk
          walk_at "go"
          have hnl : s.L.length + 1 ≤ 80001 := by omega
          refine ⟨by rw [List.length_map, List.length_append, List.length_singleton]; exact Nat.le_of_lt (size6 (by show s.L.length + 1 + 1 ≤ _; omega)), fun p2 hp2 => ?_⟩
          have fp2 : S p2 = none := by
            cases e : S p2 with
            | none => rfl
            | some c => rw [le p2 c e] at hp2; cases hp2
          walk_at "go"
          refine kk _ _ ⟨p2, some (.str y.1), some (.str y.2), some (.str s.l), u7, rfl, le.put fp2, fp2, by rw [sput_same, List.map_append (l₁ := s.L ++ [s.l])]; rfl, by rw [Nat.succ_mul]; show (s.L ++ [s.l]).length + 0 ≤ _; rw [List.length_append, List.length_singleton]; omega⟩
        · have e0 : stepL w s y = w2L w y.1 (w1L w s y.2) y.2 := (if_neg h0).trans (if_neg h1)
          rw [e0] at kk
          have hwl : (w2L w y.1 (w1L w s y.2) y.2).wt = false := by unfold w2L; split <;> rfl
          have fin : ∀ (L1 : List Str) (l1 : Str), w1L w s y.2 = (L1, l1) → L1.length + l1.length ≤ s.L.length + s.l.length + 2 → ∀ S2 p2 u5 u7, Le S S2 → S p2 = none → S2 p2 = some (.lst (((w2L w y.1 (L1, l1) y.2).L ++ [(w2L w y.1 (L1, l1) y.2).l]).map Dt.str)) → (w2L w y.1 (L1, l1) y.2).L.length + (w2L w y.1 (L1, l1) y.2).l.length ≤ L1.length + l1.length + 4 * y.2.length + 4 → ∃ p u4 u5' u6 u7', ([some (.ref ra), some (.int w), some (.ref p2), some (.bl false), some (.str y.1), u5, some (.str l1), u7] : List (Option Dt)) = [some (.ref ra), some (.int (w : Nat)), some (.ref p), some (.bl (w2L w y.1 (w1L w s y.2) y.2).wt), u4, u5', u6, u7'] ∧ Le S S2 ∧ S p = none ∧ S2 p = some (.lst (((w2L w y.1 (w1L w s y.2) y.2).L ++ [(w2L w y.1 (w1L w s y.2) y.2).l]).map Dt.str)) ∧ (w2L w y.1 (w1L w s y.2) y.2).L.length + (w2L w y.1 (w1L w s y.2) y.2).l.length ≤ (i + 1) * c + 1 := by
            intro L1 l1 e1 h1 S2 p2 u5 u7 le2 hp2 hl2 hn2
            refine ⟨p2, some (.str y.1), u5, some (.str l1), u7, by rw [hwl], le2, hp2, by rw [e1]; exact hl2, ?_⟩
            rw [e1, Nat.succ_mul]
            omega
          walk_at "w"
          cases hwt : s.wt with
          | true =>
            walk_at "go"
            refine ift (fun h2 => ?_) (fun h2 => ?_)
            · by_cases hz : s.l = ("" : Str)
              · have ew : w1L w s y.2 = (s.L, s.l) := (if_pos (.inr ⟨hwt, hz⟩)).trans (by rw [if_neg (fun k => k hz)])
                walk_at "go"
                rw [decide_eq_true hz]
                walk_at "go"
                rw [show repS (" " : Str) (if (!true) = true then (1 : Int) else 0).toNat = ("" : Str) from by decide +kernel]
                refine ⟨by rw [show ("" : Str).length = 0 from rfl]; exact Nat.le_of_lt (size6 (by omega)), ?_⟩
                walk_at "go"
                rw [show s.l ++ ("" : Str) = s.l by rw [hz]; rfl]
                refine h_lw _ _ _ _ _ _ _ _ _ _ _ _ _ hw le hp hl ?_ ?_
                · omega
                · intro S2 p2 u5 u7 a b c d
                  exact kk _ _ (fin _ _ ew (by omega) _ _ _ _ a b c d)
              · have ew : w1L w s y.2 = (s.L, s.l ++ (" " : Str)) := (if_pos (.inl ⟨hwt, by omega⟩)).trans (by rw [if_pos hz])
                walk_at "go"
                rw [decide_eq_false hz]
                refine ⟨⟨by decide, by decide, by decide +kernel⟩, ?_⟩
                walk_at "go"
                rw [show repS (" " : Str) (if (!false) = true then (1 : Int) else 0).toNat = (" " : Str) from by decide +kernel]
                refine ⟨Nat.le_of_lt (size6 (by show s.l.length + 1 ≤ _; omega)), ?_⟩
                walk_at "go"
                refine h_lw _ _ _ _ _ _ _ _ _ _ _ _ _ hw le hp hl ?_ ?_
                · rw [app_len]; show _ + (_ + 1) + _ + _ ≤ _; omega
                · intro S2 p2 u5 u7 a b c d
                  exact kk _ _ (fin _ _ ew (by rw [app_len]; show _ + (_ + 1) ≤ _; omega) _ _ _ _ a b c d)
            · by_cases hz : s.l = ("" : Str)
              · have ew : w1L w s y.2 = (s.L, s.l) := (if_pos (.inr ⟨hwt, hz⟩)).trans (by rw [if_neg (fun k => k hz)])
                walk_at "go"
                rw [decide_eq_true hz]
                walk_at "go"
                rw [decide_eq_true hz]
                walk_at "go"
                rw [show repS (" " : Str) (if (!true) = true then (1 : Int) else 0).toNat = ("" : Str) from by decide +kernel]
                refine ⟨by rw [show ("" : Str).length = 0 from rfl]; exact Nat.le_of_lt (size6 (by omega)), ?_⟩
                walk_at "go"
                rw [show s.l ++ ("" : Str) = s.l by rw [hz]; rfl]
                refine h_lw _ _ _ _ _ _ _ _ _ _ _ _ _ hw le hp hl ?_ ?_
                · omega
                · intro S2 p2 u5 u7 a b c d
                  exact kk _ _ (fin _ _ ew (by omega) _ _ _ _ a b c d)
              · have ew : w1L w s y.2 = (s.L ++ [s.l], ("" : Str)) := (if_neg (fun z => z.elim (fun z => by omega) (fun z => hz z.2))).trans (if_pos hwt)
                walk_at "go"
                rw [decide_eq_false hz]
                walk_at "go"
                refine ⟨by rw [List.length_map, List.length_append, List.length_singleton]; exact Nat.le_of_lt (size6 (by show s.L.length + 1 + 1 ≤ _; omega)), fun p2 hp2 => ?_⟩
                have fp2 : S p2 = none := by
                  cases e : S p2 with
                  | none => rfl
                  | some c => rw [le p2 c e] at hp2; cases hp2
                walk_at "go"
                refine h_lw _ _ _ _ _ _ (s.L ++ [s.l]) "" "" _ _ _ _ hw (le.put fp2) fp2 (by rw [sput_same, List.map_append (l₁ := s.L ++ [s.l])]; rfl) ?_ ?_
                · rw [List.length_append, List.length_singleton]
                  show _ + 0 + _ + _ ≤ _
                  omega
                · intro S2 p2 u5 u7 a b c d
                  exact kk _ _ (fin _ _ ew (by rw [List.length_append, List.length_singleton]; show _ + 0 ≤ _; omega) _ _ _ _ a b c d)
          | false =>
            have ew : w1L w s y.2 = (s.L, s.l) := (if_neg (fun z => by rw [hwt] at z; exact z.elim (fun z => by cases z.1) (fun z => by cases z.1))).trans (if_neg (by rw [hwt]; decide))
            walk_at "go"
            refine h_lw _ _ _ _ _ _ _ _ _ _ _ _ _ hw le hp hl ?_ ?_
            · omega
            · intro S2 p2 u5 u7 a b c d
              exact kk _ _ (fin _ _ ew (by omega) _ _ _ _ a b c d)
    · obtain ⟨p, u4, u5, u6, u7, rfl, le, hp, hl, hn⟩ := hI
      rw [List.take_length] at hl
      walk_at "go"
      refine ⟨_, latI, ?_⟩
      walk_at "go"
      refine ift (fun h0 => ?_) (fun h0 => ?_)
      · walk_at "go"
        intro p2 hp2
        walk_at "go"
        rw [cut_initX, List.map_append, show [(lawS w rows).l].map Dt.str = [.str (lawS w rows).l] from rfl, List.dropLast_concat]
        have fp2 : S p2 = none := by
          cases e : S p2 with
          | none => rfl
          | some c => rw [le p2 c e] at hp2; cases hp2
        exact h _ p2 (le.put fp2) fp2 (by unfold lawF; rw [if_pos h0]; exact sput_same)
      · walk_at "go"
        exact h S' p le hp (by unfold lawF; rw [if_neg h0]; exact hl)
end
end K05

open PySem PySem.Spec PyProof.Rows L2 Pr Dn LamX

namespace K05
def stepK (l : List Pc) (x : Str × Nat) : List Pc := (if x.2 > 0 then l ++ [⟨"end", "", 0⟩] else l) ++ (if x.1 ≠ ("" : Str) then [⟨"word", x.1, x.1.length⟩] else [])
def keptL (L : List Str) : List Pc := L.zipIdx.foldl stepK []
def keptF (z : Str) : List Pc := keptL (Txt.split z "\n")
theorem enum_strs (L : List Str) : enumD (L.map Dt.str) = L.zipIdx.map fun x => Dt.tup [.int (x.2 : Nat), .str x.1] := by
  refine List.ext_getElem? fun i => ?_
  rw [enumD_get, List.getElem?_map, List.getElem?_map, List.getElem?_zipIdx]
  cases L[i]? with
  | none => rfl
  | some x =>
    show some _ = some _
    simp
theorem foldK {l : List (Str × Nat)} {i : Nat} {x : Str × Nat} (h : l[i]? = some x) : (l.take (i + 1)).foldl stepK [] = stepK ((l.take i).foldl stepK []) x := by
  rw [List.take_add_one, h, List.foldl_append]
  rfl
theorem stepK_w {l l' : List Pc} {y : Str × Nat} (e : l' = (if y.2 > 0 then l ++ [⟨"end", "", 0⟩] else l)) (h : y.1 ≠ "") : l' ++ [⟨"word", y.1, y.1.length⟩] = stepK l y := by
  unfold stepK
  rw [if_pos h, e]
theorem stepK_n {l l' : List Pc} {y : Str × Nat} (e : l' = (if y.2 > 0 then l ++ [⟨"end", "", 0⟩] else l)) (h : y.1 = "") : l' = stepK l y := by
  unfold stepK
  rw [if_neg (show ¬ (y.1 ≠ ("" : Str)) from fun k => k h), e, List.append_nil]
def cKept (K : PySem.W.Frag) : DSp := fun ds S q _ => ∃ z nd, ds = [.str z, .ref nd] ∧ z.length ≤ 10000 ∧ (Txt.split z "\n").length ≤ 10001 ∧
  ∀ S' p ps, Le S S' → S p = none → S' p = some (.lst (List.map (fun y : Addr × Pc => Dt.ref y.1) ps)) → ps.map (·.2) = keptF z → (∀ y ∈ ps, S' y.1 = some (pcC K y.2.kind y.2.text nd y.2.w)) → q (.ref p) S'
section
variable {P : Program} {w : World} {K : PySem.W.Frag} {mg : Str → Option Value} {base : Heap}
structure KpAt (K : PySem.W.Frag) (S0 S : Store) (nd p : Addr) (ps : List (Addr × Pc)) : Prop where
  le : Le S0 S
  p0 : S0 p = none
  hl : S p = some (.lst (ps.map fun y => Dt.ref y.1))
  hpc : ∀ y ∈ ps, S y.1 = some (pcC K y.2.kind y.2.text nd y.2.w)
theorem KpAt.add {S0 S : Store} {nd p m : Addr} {ps : List (Addr × Pc)} (h : KpAt K S0 S nd p ps) (hm : S m = none) (q : Pc) : KpAt K S0 (sput (sput S m (pcC K q.kind q.text nd q.w)) p (.lst ((ps.map fun y => Dt.ref y.1) ++ [.ref m]))) nd p (ps ++ [(m, q)]) := by
  have mp : m ≠ p := fun e => by rw [e, h.hl] at hm; cases hm
  refine ⟨fun x c hx => ?_, h.p0, by rw [sput_same, List.map_append]; rfl, fun y hy => ?_⟩
  · rw [sput_ne (fun e => by rw [e, h.p0] at hx; cases hx), sput_ne (fun e => by rw [e] at hx; rw [h.le _ _ hx] at hm; cases hm)]
    exact h.le x c hx
  · rcases List.mem_append.mp hy with hy | hy
    · have g := h.hpc y hy
      rw [sput_ne (fun e => by rw [e, h.hl] at g; cases g), sput_ne (fun e => by rw [e, hm] at g; cases g)]
      exact g
    · rw [List.mem_singleton.mp hy, sput_ne mp, sput_same]
set_option hygiene false in
local macro_rules | `(tactic| walk_at "wd") => `(tactic| (
  have hp1 := kp'.hl
  walk_at "go"
  refine iftN (fun h0 => ?_) (fun h0 => ?_)
  · walk_at "go"
    intro m1 hm1
    refine ⟨_, _, _, _, _, rfl, sput_same, ?_⟩
    simp only [sput_sput]
    have kq := kp'.add hm1 ⟨"word", y.1, y.1.length⟩
    have pm1 : p ≠ m1 := fun e => by rw [← e, kp'.hl] at hm1; cases hm1
    walk_at "go"
    refine ⟨by rw [List.length_map]; exact size6 (by omega), ?_⟩
    refine fin _ _ _ _ kq (by rw [List.map_append]; exact stepK_w e0 h0) (by rw [List.length_append, List.length_singleton]; omega)
  · walk_at "go"
    exact fin _ _ _ _ kp' (stepK_n e0 h0) (by omega)))
theorem ok_kept (T : Tx K mg) (k_Piece : MakX P w K mg base 1 "Piece" (He.ga K "Piece") (spD K (cPiece K)) []) {f : Addr} {fd : FuncData} (F : FunD K "kept_pieces" "kept_pieces" (defArgs s_kept_pieces) (defBody s_kept_pieces) (defScope s_kept_pieces) [] [] f fd) : FnOk P w K mg base (L2.CX P w) 3 f fd ["text", "node"] (spD K (cKept K)) := by
  refine dfn 5 F sc_kept_pieces (fun ds S q e h => ?_) rfl (fun cdv A0 outer s H E e hr => ⟨_, (dss_cons (ds_set (i := 2) sc_kept_pieces.nd rfl (Or.inl rfl) (de_lstO da_nil))
  (dss_cons (ds_for poX rfl (di_enum rfl (by rfl) T.b_enumerate (da_cons (de_bm rfl is_tx PySem.F.plainAttrs_str PySem.F.slot_str_split PySem.F.type_str_split md_split1 (dv (pv 0)) (da_cons de_str da_nil)) da_nil)) (dg_tup (n := 2) rfl rfl (dgs_cons (dg_name (i := 3) sc_kept_pieces.nd rfl (Or.inl rfl)) (dgs_cons (dg_name (i := 4) sc_kept_pieces.nd rfl (Or.inl rfl)) dgs_nil))) (dss_cons (ds_if (dt_cmp od_gt (dv (pv 3)) de_int) (dss_one (ds_expr (de_bm rfl is_ls PySem.F.plainAttrs_list PySem.F.slot_list_append PySem.F.type_list_append md_append (dv (pv 2)) (da_cons (de_make (nm := nm_Piece) rfl k_Piece dfl_nil hr (by decide) rfl paX (da_cons de_str (da_cons de_str (da_cons (dv (pv 1)) (da_cons de_int da_nil))))) da_nil)))) dss_nil)
  (dss_one (ds_if (dt_cmp (od_ne rfl (hU_of hr)) (dv (pv 4)) de_str) (dss_one (ds_expr (de_bm rfl is_ls PySem.F.plainAttrs_list PySem.F.slot_list_append PySem.F.type_list_append md_append (dv (pv 2)) (da_cons (de_make (nm := nm_Piece) rfl k_Piece dfl_nil hr (by decide) rfl paX (da_cons de_str (da_cons (dv (pv 4)) (da_cons (dv (pv 1)) (da_cons (de_callB (cd_len rfl) (by rfl) T.b_len (by decide +kernel) (da_cons (dv (pv 4)) da_nil)) da_nil))))) da_nil)))) dss_nil))))
  (dss_one (ds_ret (dv (pv 2)))))), fun ds S q h => ?_⟩)
  · obtain ⟨_, _, rfl, _⟩ := h
    rfl
  · obtain ⟨z, nd, rfl, hz, hn, h⟩ := h
    walk_at "go"
    intro p hp
    walk_at "go"
    rw [enum_strs]
    refine forGo_at (fun x : Str × Nat => Dt.tup [.int (x.2 : Nat), .str x.1]) (Txt.split z "\n").zipIdx (fun i δ S' => ∃ u3 u4 ps, δ = [some (.str z), some (.ref nd), some (.ref p), u3, u4] ∧ KpAt K S S' nd p ps ∧ ps.map (·.2) = ((Txt.split z "\n").zipIdx.take i).foldl stepK [] ∧ ps.length ≤ 2 * i) (fun i δ S' hI => trivial) (fun i y δ S' hy hI nx kk => ?_) (fun δ S' hI => ?_) ⟨_, _, [], rfl, ⟨Le.refl.put hp, hp, sput_same, nofun⟩, rfl, Nat.le_refl _⟩
    · obtain ⟨u3, u4, ps, rfl, kp, hps, hl⟩ := hI
      have hil := (List.getElem?_eq_some_iff.mp hy).1
      rw [List.length_zipIdx] at hil
      rw [foldK hy, ← hps] at kk
      have fin : ∀ S1 ps1 u3 u4, KpAt K S S1 nd p ps1 → ps1.map (·.2) = stepK (ps.map (·.2)) y → ps1.length ≤ 2 * (i + 1) → nx [some (.str z), some (.ref nd), some (.ref p), u3, u4] S1 := fun S1 ps1 u3 u4 a b c => kk _ _ ⟨_, _, _, rfl, a, b, c⟩
      clear kk
      have hyl : y.1.length ≤ 10000 := by
        have : y.1 ∈ Txt.split z "\n" := by
          rw [List.getElem?_zipIdx] at hy
          cases e : (Txt.split z "\n")[i]? with
          | none => rw [e] at hy; cases hy
          | some x =>
            rw [e] at hy
            have hy : (x, 0 + i) = y := Option.some.inj hy
            rw [← hy]
            exact List.mem_of_getElem? e
        exact Nat.le_trans (split_len _ this) hz
      walk_at "go"
      by_cases hg : 0 < y.2
      · rw [decide_eq_true (by omega)]
        have hp1 := kp.hl
        walk_at "go"
        intro m hm
        refine ⟨_, _, _, _, _, rfl, sput_same, ?_⟩
        simp only [sput_sput]
        have kp' := kp.add hm ⟨"end", "", 0⟩
        have pm : p ≠ m := fun e => by rw [← e, kp.hl] at hm; cases hm
        walk_at "go"
        refine ⟨by rw [List.length_map]; exact size6 (by omega), ?_⟩
        have e0 : (ps ++ [(m, Pc.mk "end" "" 0)]).map (·.2) = (if y.2 > 0 then ps.map (·.2) ++ [⟨"end", "", 0⟩] else ps.map (·.2)) := by rw [if_pos hg, List.map_append]; rfl
        have hl' : (ps ++ [(m, Pc.mk "end" "" 0)]).length ≤ 2 * i + 1 := by rw [List.length_append, List.length_singleton]; omega
        clear hp1
        generalize sput (sput S' m (pcC K "end" "" nd 0)) p (.lst ((ps.map fun y => Dt.ref y.1) ++ [.ref m])) = S2 at kp' ⊢
        generalize ps ++ [(m, Pc.mk "end" "" 0)] = ps1 at kp' e0 hl'
        walk_at "wd"
      · rw [decide_eq_false (by omega)]
        have kp' := kp
        have e0 : ps.map (·.2) = (if y.2 > 0 then ps.map (·.2) ++ [⟨"end", "", 0⟩] else ps.map (·.2)) := (if_neg hg).symm
        have hl' : ps.length ≤ 2 * i + 1 := by omega
        walk_at "wd"
    · obtain ⟨u3, u4, ps, rfl, kp, hps, hl⟩ := hI
      rw [List.take_length] at hps
      walk_at "go"
      exact h S' p ps kp.le hp kp.hl hps kp.hpc
end
end K05

open PySem PySem.Spec PyProof.Rows L2 Pr Dn LamX
/-! the lines of the breaker are the law's -/
namespace K05
def shR (r : Run) : Str := if r.tx ≠ ("" : Str) then r.tx else repS "#" r.w
def shL (ln : Ln) : Str := Txt.join "" (ln.runs.map shR)
theorem join_e : ∀ (l : List Str), (Txt.join "" l).cps.toList = (l.map fun x => x.cps.toList).flatten
  | [] => by rw [TL.join_eq]; rfl
  | [x] => by rw [TL.join_eq]; show x.cps.toList = _; simp
  | x :: y :: r => by
    have ih := join_e (y :: r)
    rw [TL.join_eq] at ih ⊢
    rw [join_cons2, ih, List.map_cons, List.flatten_cons]
    rfl
theorem join_snoc (l : List Str) (x : Str) : Txt.join "" (l ++ [x]) = Txt.join "" l ++ x := st_ext (by
  rw [join_e, app_cps, join_e, List.map_append, List.flatten_append]
  simp)
theorem app_e (x : Str) : x ++ ("" : Str) = x := st_ext (by rw [app_cps]; show _ ++ [] = _; rw [List.append_nil])
theorem app_ne {x y : Str} (h : y ≠ "") : x ++ y ≠ "" := fun e => by
  have := congrArg Str.length e
  rw [app_len, show ("" : Str).length = 0 from rfl] at this
  have := str_pos h
  omega
structure TOk (t : Str) : Prop where
  s : SOk t
  l : t.length ≤ 60
structure ROk (r : Run) : Prop where
  t : TOk r.tx
  w : r.w ≤ 60
theorem TOk.take {t : Str} (h : TOk t) (n : Nat) : TOk (takeS t n) := by
  have l := takeS_len (t := t) (n := n)
  refine ⟨h.s.sub (fun c hc => ?_) l, Nat.le_trans l h.l⟩
  unfold takeS cutS at hc
  exact List.mem_of_mem_drop (List.mem_of_mem_take (show c ∈ List.take _ (List.drop _ t.cps.toList) from hc))
theorem TOk.drop {t : Str} (h : TOk t) (n : Nat) : TOk (dropS t n) := by
  have l := dropS_len (t := t) (n := n)
  refine ⟨h.s.sub (fun c hc => ?_) (by omega), by have := h.l; omega⟩
  unfold dropS cutS at hc
  exact List.mem_of_mem_drop (List.mem_of_mem_take (show c ∈ List.take _ (List.drop _ t.cps.toList) from hc))
theorem takeS_ln {t : Str} {n : Nat} : (takeS t n).length = min n t.length := by
  unfold takeS cutS
  rw [HT.sIx_none, HT.sIx_nat]
  show ((t.cps.toList.drop 0).take (min n t.length - 0)).toArray.size = _
  rw [List.size_toArray, List.length_take, List.length_drop, Array.length_toList]
  have : t.cps.size = t.length := rfl
  omega
structure Rl (b : Bk) (L : List Str) (l : Str) : Prop where
  hL : b.L.map shL = L
  hl : shL b.l = l
  hw : ∀ ln ∈ b.all, ln.w = (shL ln).length
  hr : b.l.runs = [] ↔ l = ""
  hs : ∀ ln ∈ b.all, ∀ r ∈ ln.runs, ROk r
theorem Rl.nl {b : Bk} {L : List Str} {l : Str} (h : Rl b L l) (s : Bool) : Rl ⟨b.L ++ [b.l], ln0, s⟩ (L ++ [l]) "" := by
  refine ⟨by rw [List.map_append, h.hL]; show _ ++ [shL b.l] = _; rw [h.hl], rfl, fun ln hn => ?_, ⟨fun _ => rfl, fun _ => rfl⟩, fun ln hn => ?_⟩
  · rcases List.mem_append.mp hn with hn | hn
    · exact h.hw ln hn
    · rw [List.mem_singleton.mp hn]; rfl
  · rcases List.mem_append.mp hn with hn | hn
    · exact h.hs ln hn
    · rw [List.mem_singleton.mp hn]; nofun
theorem Rl.sp {b : Bk} {L : List Str} {l : Str} (h : Rl b L l) (s : Bool) : Rl ⟨b.L, b.l, s⟩ L l := ⟨h.hL, h.hl, h.hw, h.hr, h.hs⟩
theorem Rl.add {b : Bk} {L : List Str} {l : Str} (h : Rl b L l) {k t x : Str} {w : Nat} (ht : TOk t) (hw : w ≤ 60) (hx : shR ⟨b.l.w, t, if k = "thing" then w else t.length⟩ = x) (hn : x ≠ "") (hl : (if k = "thing" then w else t.length) = x.length) (s : Bool) : Rl ⟨b.L, addR b.l k t w, s⟩ L (l ++ x) := by
  have e1 : shL (addR b.l k t w) = l ++ x := by
    unfold shL addR
    rw [List.map_append, List.map_cons, List.map_nil, join_snoc, hx]
    show shL b.l ++ x = _
    rw [h.hl]
  have ml : b.l ∈ b.all := List.mem_append_right _ List.mem_cons_self
  refine ⟨h.hL, e1, fun ln hn => ?_, ⟨fun z => ?_, fun z => absurd z (app_ne hn)⟩, fun ln hn => ?_⟩
  · rcases List.mem_append.mp hn with hn | hn
    · exact h.hw ln (List.mem_append_left _ hn)
    · rw [List.mem_singleton.mp hn]
      show (addR b.l k t w).w = _
      rw [show shL (Bk.mk b.L (addR b.l k t w) s).l = l ++ x from e1, app_len, ← h.hl, ← h.hw _ ml, ← hl]
      rfl
  · exact absurd z (by unfold addR; simp)
  · rcases List.mem_append.mp hn with hn | hn
    · exact h.hs ln (List.mem_append_left _ hn)
    · rw [List.mem_singleton.mp hn]
      show ∀ r ∈ b.l.runs ++ [_], ROk r
      intro r hr
      rcases List.mem_append.mp hr with hr | hr
      · exact h.hs _ ml r hr
      · rw [List.mem_singleton.mp hr]
        exact ⟨ht, by show (if k = "thing" then w else t.length) ≤ 60; split; exact hw; exact ht.l⟩
theorem shR_t {p w : Nat} {t : Str} (h : t ≠ "") : shR ⟨p, t, w⟩ = t := if_pos h
theorem Rl.word {b : Bk} {L : List Str} {l t : Str} (h : Rl b L l) (ht : TOk t) (hn : t ≠ "") (w : Nat) (hw : w ≤ 60) (k : Str) (hk : k ≠ "thing") (s : Bool) : Rl ⟨b.L, addR b.l k t w, s⟩ L (l ++ t) := h.add ht hw (shR_t hn) hn (if_neg hk) s
theorem brk_rl {lim : Nat} (h1 : 1 ≤ lim) : ∀ (n : Nat) (b : Bk) (L : List Str) (l t : Str), Rl b L l → TOk t → t ≠ "" →
    Rl (brkF lim n b t).1 (brkL lim n L l t).1 (brkL lim n L l t).2.1 ∧ (brkF lim n b t).2 = (brkL lim n L l t).2.2 ∧ TOk (brkF lim n b t).2 ∧ (brkF lim n b t).2 ≠ "" ∧ (brkF lim n b t).1.sp = b.sp
  | 0, b, L, l, t, h, ht, hn => ⟨h, rfl, ht, hn, rfl⟩
  | n + 1, b, L, l, t, h, ht, hn => by
    have ew : b.l.w = l.length := by rw [h.hw b.l (List.mem_append_right _ List.mem_cons_self), h.hl]
    have em : max 1 lim = lim := by omega
    unfold brkF brkL
    rw [em, ew]
    by_cases c : l.length + t.length > lim
    · rw [if_pos c, if_pos c]
      have hd : dropS t (lim - l.length) ≠ "" := fun e => by
        have := dropS_len (t := t) (n := lim - l.length)
        rw [e, show ("" : Str).length = 0 from rfl] at this
        have := str_pos hn
        omega
      by_cases r : lim - l.length > 0
      · rw [if_pos r]
        have tk : takeS t (lim - l.length) ≠ "" := fun e => by
          have := takeS_ln (t := t) (n := lim - l.length)
          rw [e, show ("" : Str).length = 0 from rfl] at this
          have := str_pos hn
          omega
        have h2 := (h.word (ht.take (lim - l.length)) tk t.length ht.l "word" (by decide) b.sp).nl b.sp
        exact brk_rl h1 n _ _ _ _ h2 (ht.drop _) hd
      · rw [if_neg r]
        have e0 : takeS t (lim - l.length) = "" := by
          have := takeS_ln (t := t) (n := lim - l.length)
          by_cases z : takeS t (lim - l.length) = ""
          · exact z
          · have := str_pos z; omega
        rw [e0, app_e]
        exact brk_rl h1 n _ _ _ _ (h.nl b.sp) (ht.drop _) hd
    · rw [if_neg c, if_neg c]
      exact ⟨h, rfl, ht, hn, rfl⟩
structure Rel (b : Bk) (s : LL) : Prop where
  r : Rl b s.L s.l
  sp : b.sp = s.wt
  ne : s.wt = true → s.l ≠ ""
def RowOk (y : Str × Str) : Prop := (y.1 = "word" ∧ y.2 ≠ "" ∧ TOk y.2) ∨ (y.1 = "space" ∧ y.2 = " ") ∨ (y.1 = "end" ∧ y.2 = "") ∨ (y.1 = "thing" ∧ y.2 ≠ "" ∧ repS "#" y.2.length = y.2 ∧ y.2.length ≤ 60)
def pcOf (y : Str × Str) : Pc := ⟨y.1, if y.1 = "thing" then "" else y.2, y.2.length⟩
theorem TOk.sp : TOk " " := ⟨sok_of (by decide +kernel), by decide +kernel⟩
theorem w12_rl {lim : Nat} {b : Bk} {s : LL} (h : Rel b s) {p : Pc} {t : Str} (hp : p.w = t.length) :
    Rl (w2F (w1F lim b p)) (w1L lim s t).1 (w1L lim s t).2 ∧ (w2F (w1F lim b p)).sp = false := by
  have ew : b.l.w = s.l.length := by rw [h.r.hw b.l (List.mem_append_right _ List.mem_cons_self), h.r.hl]
  cases hwt : s.wt with
  | false =>
    have hsp : b.sp = false := h.sp.trans hwt
    have e1 : w1F lim b p = b := if_neg (fun z => by rw [hsp] at z; cases z.2.2)
    have e2 : w2F b = b := if_neg (by rw [hsp]; decide)
    have e3 : w1L lim s t = (s.L, s.l) := (if_neg (fun z => by rw [hwt] at z; exact z.elim (fun z => by cases z.1) (fun z => by cases z.1))).trans (if_neg (by rw [hwt]; decide))
    rw [e1, e2, e3]
    exact ⟨h.r, hsp⟩
  | true =>
    have hsp : b.sp = true := h.sp.trans hwt
    have hz := h.ne hwt
    have hrn : b.l.runs ≠ [] := fun z => hz (h.r.hr.mp z)
    by_cases c : s.l.length + 1 + t.length ≤ lim
    · have e1 : w1F lim b p = b := if_neg (fun z => by have z := z.2.1; rw [if_pos hsp, hp, ew] at z; omega)
      have e2 : w2F b = ⟨b.L, addR b.l "space" " " 1, false⟩ := if_pos hsp
      have e3 : w1L lim s t = (s.L, s.l ++ (" " : Str)) := (if_pos (.inl ⟨hwt, c⟩)).trans (by rw [if_pos hz])
      rw [e1, e2, e3]
      exact ⟨h.r.word .sp (by decide) 1 (by decide) "space" (by decide) false, rfl⟩
    · have e1 : w1F lim b p = ⟨b.L ++ [b.l], ln0, false⟩ := if_pos ⟨hrn, by rw [if_pos hsp, hp, ew]; omega, hsp⟩
      have e3 : w1L lim s t = (s.L ++ [s.l], ("" : Str)) := (if_neg (fun z => z.elim (fun z => c z.2) (fun z => hz z.2))).trans (if_pos hwt)
      rw [e1, e3]
      exact ⟨h.r.nl false, rfl⟩
theorem put_rel {lim : Nat} (h1 : 1 ≤ lim) {b : Bk} {s : LL} (h : Rel b s) {y : Str × Str} (hy : RowOk y) : Rel (putF lim b (pcOf y)) (stepL lim s y) := by
  obtain ⟨k, t⟩ := y
  rcases hy with ⟨rfl, hn, ht⟩ | ⟨rfl, rfl⟩ | ⟨rfl, rfl⟩ | ⟨rfl, hn, hr, ht⟩
  · obtain ⟨r1, s1⟩ := w12_rl (lim := lim) h (p := pcOf ("word", t)) (t := t) rfl
    have e1 : putF lim b (pcOf ("word", t)) = wordF lim b (pcOf ("word", t)) := rfl
    have e2 : stepL lim s ("word", t) = w2L lim "word" (w1L lim s t) t := rfl
    obtain ⟨r2, e3, t2, n2, s2⟩ := brk_rl h1 (2 * t.length + 2) _ _ _ _ r1 ht hn
    rw [e1, e2]
    have e4 : wordF lim b (pcOf ("word", t)) = w4F (pcOf ("word", t)) (brkF lim (2 * t.length + 2) (w2F (w1F lim b (pcOf ("word", t)))) t) := rfl
    have e5 : w2L lim "word" (w1L lim s t) t = ⟨(brkL lim (2 * t.length + 2) (w1L lim s t).1 (w1L lim s t).2 t).1, (brkL lim (2 * t.length + 2) (w1L lim s t).1 (w1L lim s t).2 t).2.1 ++ (brkL lim (2 * t.length + 2) (w1L lim s t).1 (w1L lim s t).2 t).2.2, false⟩ := rfl
    rw [e4, e5, ← e3]
    unfold w4F
    rw [if_pos (.inl n2)]
    refine ⟨r2.word t2 n2 _ ht.l _ (by show ("word" : Str) ≠ "thing"; decide) _, s2.trans s1, nofun⟩
  · have e1 : putF lim b (pcOf ("space", " ")) = if b.l.runs ≠ [] then ⟨b.L, b.l, true⟩ else b := rfl
    have e2 : stepL lim s ("space", " ") = ⟨s.L, s.l, s.wt || !decide (s.l = "")⟩ := rfl
    rw [e1, e2]
    by_cases hz : s.l = ""
    · have hw : s.wt = false := by
        cases e : s.wt with
        | false => rfl
        | true => exact absurd hz (h.ne e)
      rw [if_neg (fun k => k (h.r.hr.mpr hz)), decide_eq_true hz, hw]
      exact ⟨h.r, h.sp.trans hw, nofun⟩
    · rw [if_pos (fun k => hz (h.r.hr.mp k)), decide_eq_false hz, show (s.wt || !false) = true by cases s.wt <;> rfl]
      exact ⟨h.r.sp true, rfl, fun _ => hz⟩
  · exact ⟨h.r.nl false, rfl, nofun⟩
  · obtain ⟨r1, s1⟩ := w12_rl (lim := lim) h (p := pcOf ("thing", t)) (t := t) rfl
    have e1 : putF lim b (pcOf ("thing", t)) = ⟨(w2F (w1F lim b (pcOf ("thing", t)))).L, addR (w2F (w1F lim b (pcOf ("thing", t)))).l "thing" "" t.length, (w2F (w1F lim b (pcOf ("thing", t)))).sp⟩ := rfl
    have e2 : stepL lim s ("thing", t) = ⟨(w1L lim s t).1, (w1L lim s t).2 ++ t, false⟩ := rfl
    rw [e1, e2]
    refine ⟨r1.add ⟨.empty, by decide⟩ ht ?_ hn (if_pos rfl) _, s1, nofun⟩
    have e3 : (if ("thing" : Str) = "thing" then t.length else ("" : Str).length) = t.length := if_pos rfl
    show (if ("" : Str) ≠ "" then ("" : Str) else repS "#" (if ("thing" : Str) = "thing" then t.length else ("" : Str).length)) = t
    rw [e3, if_neg (fun k => k rfl)]
    exact hr
theorem law_rel {lim : Nat} (h1 : 1 ≤ lim) : ∀ (rows : List (Str × Str)) (b : Bk) (s : LL), Rel b s → (∀ y ∈ rows, RowOk y) → Rel ((rows.map pcOf).foldl (putF lim) b) (rows.foldl (stepL lim) s)
  | [], _, _, h, _ => h
  | y :: r, b, s, h, hy => law_rel h1 r _ _ (put_rel h1 h (hy y List.mem_cons_self)) fun z hz => hy z (List.mem_cons_of_mem _ hz)
theorem rel0 : Rel bk0 ⟨[], "", false⟩ := ⟨⟨rfl, rfl, fun ln h => by rw [List.mem_singleton.mp h]; rfl, ⟨fun _ => rfl, fun _ => rfl⟩, fun ln h => by rw [List.mem_singleton.mp h]; nofun⟩, rfl, nofun⟩
/-- what the law asks of the lines -/
theorem lines_law {lim : Nat} (h1 : 1 ≤ lim) {rows : List (Str × Str)} (hy : ∀ y ∈ rows, RowOk y) :
    (linesF (brk lim (rows.map pcOf))).map shL = lawF lim rows ∧ (∀ ln ∈ linesF (brk lim (rows.map pcOf)), ln.w = (shL ln).length) ∧ ∀ ln ∈ linesF (brk lim (rows.map pcOf)), ∀ r ∈ ln.runs, ROk r := by
  have h := law_rel h1 rows _ _ rel0 hy
  have hb : (rows.map pcOf).foldl (putF lim) bk0 = brk lim (rows.map pcOf) := rfl
  have hs : rows.foldl (stepL lim) ⟨[], "", false⟩ = lawS lim rows := rfl
  rw [hb, hs] at h
  unfold linesF lawF
  by_cases c : (lawS lim rows).l = ""
  · rw [if_pos c, if_pos (h.r.hr.mpr c)]
    exact ⟨h.r.hL, fun ln hn => h.r.hw ln (List.mem_append_left _ hn), fun ln hn => h.r.hs ln (List.mem_append_left _ hn)⟩
  · rw [if_neg c, if_neg (fun k => c (h.r.hr.mp k))]
    refine ⟨?_, h.r.hw, h.r.hs⟩
    unfold Bk.all
    rw [List.map_append, h.r.hL]
    show _ ++ [shL _] = _
    rw [h.r.hl]
end K05

open PySem PySem.Spec PyProof.Rows L2 Pr Dn LamX
/-! the widest line; texts that are kept -/
namespace K05
theorem w1_same {w w' : Nat} {s : LL} {t : Str} (h : s.l.length + 1 + t.length ≤ w) (h' : s.l.length + 1 + t.length ≤ w') : w1L w s t = w1L w' s t := by
  unfold w1L
  by_cases c : (s.wt = true ∧ s.l.length + 1 + t.length ≤ w) ∨ (s.wt = true ∧ s.l = "")
  · rw [if_pos c, if_pos (c.imp (fun z => ⟨z.1, h'⟩) id)]
  · have c' : ¬ ((s.wt = true ∧ s.l.length + 1 + t.length ≤ w') ∨ (s.wt = true ∧ s.l = "")) := fun z => c (z.imp (fun z => ⟨z.1, h⟩) id)
    rw [if_neg c, if_neg c']
theorem w1_len {w : Nat} {s : LL} {t : Str} : (w1L w s t).2.length ≤ s.l.length + 1 := by
  unfold w1L
  split
  · show (if s.l ≠ ("" : Str) then s.l ++ (" " : Str) else s.l).length ≤ _
    split
    · rw [app_len]; exact Nat.le_refl _
    · omega
  · split
    · exact Nat.zero_le _
    · show s.l.length ≤ _; omega
theorem brkL_no {w n : Nat} {L : List Str} {l t : Str} (h : l.length + t.length ≤ w) : brkL w n L l t = (L, l, t) := by
  cases n with
  | zero => rfl
  | succ n => exact if_neg (by omega)
theorem step_same {w w' : Nat} {s : LL} {y : Str × Str} (h : s.l.length + 1 + y.2.length ≤ w) (h' : s.l.length + 1 + y.2.length ≤ w') : stepL w s y = stepL w' s y ∧ (stepL w s y).l.length ≤ s.l.length + 1 + y.2.length := by
  unfold stepL
  by_cases c : y.1 = "space"
  · rw [if_pos c, if_pos c]
    exact ⟨rfl, by show s.l.length ≤ _; omega⟩
  · rw [if_neg c, if_neg c]
    by_cases d : y.1 = "end"
    · rw [if_pos d, if_pos d]
      exact ⟨rfl, Nat.zero_le _⟩
    · rw [if_neg d, if_neg d]
      rw [w1_same h h']
      have l1 := w1_len (w := w') (s := s) (t := y.2)
      generalize w1L w' s y.2 = x at l1
      unfold w2L
      by_cases e : y.1 = "word"
      · rw [if_pos e, if_pos e, brkL_no (by omega), brkL_no (by omega)]
        exact ⟨rfl, by show (x.2 ++ y.2).length ≤ _; rw [app_len]; omega⟩
      · rw [if_neg e, if_neg e]
        exact ⟨rfl, by show (x.2 ++ y.2).length ≤ _; rw [app_len]; omega⟩
theorem fold_same {w w' c : Nat} : ∀ (rows : List (Str × Str)) (s : LL), (∀ y ∈ rows, y.2.length + 1 ≤ c) → s.l.length + rows.length * c ≤ w → s.l.length + rows.length * c ≤ w' → rows.foldl (stepL w) s = rows.foldl (stepL w') s
  | [], _, _, _, _ => rfl
  | y :: r, s, hy, h, h' => by
    have h1 := hy y List.mem_cons_self
    rw [List.length_cons, Nat.succ_mul] at h h'
    obtain ⟨e1, e2⟩ := step_same (w := w) (w' := w') (s := s) (y := y) (by omega) (by omega)
    rw [List.foldl_cons, List.foldl_cons, ← e1]
    exact fold_same r _ (fun z hz => hy z (List.mem_cons_of_mem _ hz)) (by omega) (by omega)
theorem law_same {w w' c : Nat} {rows : List (Str × Str)} (hy : ∀ y ∈ rows, y.2.length + 1 ≤ c) (h : rows.length * c ≤ w) (h' : rows.length * c ≤ w') : lawF w rows = lawF w' rows := by
  have e : lawS w rows = lawS w' rows := fold_same rows _ hy (by show 0 + _ ≤ _; omega) (by show 0 + _ ≤ _; omega)
  unfold lawF
  rw [e]
theorem maxW_fold : ∀ (L : List Ln) (a : Nat), (∀ l ∈ L, l.w ≤ L.foldl (fun f l => max f l.w) a) ∧ a ≤ L.foldl (fun f l => max f l.w) a ∧ (L.foldl (fun f l => max f l.w) a = a ∨ ∃ l ∈ L, l.w = L.foldl (fun f l => max f l.w) a)
  | [], a => ⟨nofun, Nat.le_refl _, .inl rfl⟩
  | x :: r, a => by
    obtain ⟨h1, h2, h3⟩ := maxW_fold r (max a x.w)
    rw [List.foldl_cons]
    refine ⟨fun l hl => ?_, by omega, ?_⟩
    · rcases List.mem_cons.mp hl with rfl | hl
      · omega
      · exact h1 l hl
    · rcases h3 with h3 | ⟨l, hl, h3⟩
      · by_cases c : a ≤ x.w
        · exact .inr ⟨x, List.mem_cons_self, by rw [h3]; omega⟩
        · exact .inl (by rw [h3]; omega)
      · exact .inr ⟨l, List.mem_cons_of_mem _ hl, h3⟩
theorem maxW_eq {L : List Ln} {m : Int} (hm : m ∈ (0 : Int) :: L.map (fun l => (l.w : Int))) (h : ∀ y ∈ (0 : Int) :: L.map (fun l => (l.w : Int)), y ≤ m) : m = (maxW L : Nat) := by
  obtain ⟨h1, h2, h3⟩ := maxW_fold L 0
  have e : maxW L = L.foldl (fun f l => max f l.w) 0 := rfl
  rw [← e] at h1 h2 h3
  have le : ((maxW L : Nat) : Int) ≤ m := by
    rcases h3 with h3 | ⟨l, hl, h3⟩
    · rw [h3]; exact h 0 List.mem_cons_self
    · rw [← h3]; exact h _ (List.mem_cons_of_mem _ (List.mem_map.mpr ⟨l, hl, rfl⟩))
  have ge : m ≤ ((maxW L : Nat) : Int) := by
    rcases List.mem_cons.mp hm with hm | hm
    · omega
    · obtain ⟨l, hl, rfl⟩ := List.mem_map.mp hm
      have := h1 l hl
      omega
  omega
/-- the law's measure of the widest line is the program's -/
theorem widest_law {c : Nat} {rows : List (Str × Str)} {m : Int} (hy : ∀ y ∈ rows, RowOk y) (hc : ∀ y ∈ rows, y.2.length + 1 ≤ c) (hl : rows.length * c ≤ 100000) (hm : m ∈ (0 : Int) :: (lawF 1000000 rows).map (fun z => (z.length : Int))) (h : ∀ y ∈ (0 : Int) :: (lawF 1000000 rows).map (fun z => (z.length : Int)), y ≤ m) : m = (maxW (linesF (brk 100000 (rows.map pcOf))) : Nat) := by
  obtain ⟨e1, e2, _⟩ := lines_law (lim := 100000) (by decide) hy
  have e3 : (lawF 1000000 rows).map (fun z => (z.length : Int)) = (linesF (brk 100000 (rows.map pcOf))).map (fun l => (l.w : Int)) := by
    rw [law_same hc (w := 1000000) (w' := 100000) (by omega) hl, ← e1, List.map_map]
    refine List.map_congr_left fun l hl => ?_
    show (((shL l).length : Nat) : Int) = _
    rw [e2 l hl]
  rw [e3] at hm h
  exact maxW_eq hm h
/-! texts that are kept -/
def shT (ln : Ln) : Str := Txt.join "" (ln.runs.map (·.tx))
def lnOf (x : Str) : Ln := if x = "" then ln0 else ⟨[⟨0, x, x.length⟩], x.length⟩
theorem shT_of (x : Str) : shT (lnOf x) = x := by
  unfold lnOf
  split
  · rename_i h; rw [h]; rfl
  · show Txt.join "" [x] = x
    rw [TL.join_eq]
    rfl
def wp (x : Str) : List Pc := if x ≠ ("" : Str) then [⟨"word", x, x.length⟩] else []
def ep (x : Str) : List Pc := ⟨"end", "", 0⟩ :: wp x
theorem keptL_go : ∀ (r : List Str) (k : Nat) (l : List Pc), 0 < k → (r.zipIdx k).foldl stepK l = l ++ r.flatMap ep
  | [], _, l, _ => by simp
  | x :: r, k, l, hk => by
    rw [List.zipIdx_cons, List.foldl_cons, keptL_go r (k + 1) _ (Nat.succ_pos _), List.flatMap_cons]
    unfold stepK ep wp
    rw [if_pos (show (x, k).2 > 0 from hk)]
    simp only [List.append_assoc, List.cons_append, List.nil_append, List.singleton_append]
theorem keptL_cons (x : Str) (r : List Str) : keptL (x :: r) = wp x ++ r.flatMap ep := by
  unfold keptL
  rw [List.zipIdx_cons, List.foldl_cons, keptL_go r 1 _ (Nat.succ_pos _)]
  unfold stepK wp
  rw [if_neg (show ¬ ((x, 0).2 > 0) from Nat.lt_irrefl 0)]
  rfl
theorem put_wp {L : List Ln} {x : Str} (h : x.length ≤ 50) : (wp x).foldl (putF 50) ⟨L, ln0, false⟩ = ⟨L, lnOf x, false⟩ := by
  unfold wp lnOf
  by_cases e : x = ""
  · rw [if_pos e, if_neg (fun k => k e)]
    rfl
  · rw [if_neg e, if_pos e]
    show wordF 50 ⟨L, ln0, false⟩ ⟨"word", x, x.length⟩ = _
    have e1 : wordF 50 ⟨L, ln0, false⟩ ⟨"word", x, x.length⟩ = w4F ⟨"word", x, x.length⟩ (brkF 50 (2 * x.length + 2) ⟨L, ln0, false⟩ x) := by
      have a1 : w1F 50 ⟨L, ln0, false⟩ ⟨"word", x, x.length⟩ = ⟨L, ln0, false⟩ := if_neg (fun z => by cases z.2.2)
      have a2 : w2F ⟨L, ln0, false⟩ = ⟨L, ln0, false⟩ := if_neg (fun z => by cases z)
      unfold wordF
      rw [a1, a2]
      rfl
    have e2 : brkF 50 (2 * x.length + 2) ⟨L, ln0, false⟩ x = (⟨L, ln0, false⟩, x) := if_neg (by show ¬ (0 + x.length > 50); omega)
    rw [e1, e2]
    unfold w4F
    rw [if_pos (.inl e)]
    show Bk.mk L ⟨[⟨0, x, _⟩], 0 + _⟩ false = _
    rw [if_neg (show ¬ (("word" : Str) = "thing") by decide), Nat.zero_add]
theorem brk_kept : ∀ (r : List Str) (L : List Ln) (x : Str), (∀ y ∈ r, y.length ≤ 50) → (r.flatMap ep).foldl (putF 50) ⟨L, lnOf x, false⟩ = ⟨L ++ (x :: r).dropLast.map lnOf, lnOf ((x :: r).getLast (by simp)), false⟩
  | [], L, x, _ => by simp
  | y :: r, L, x, h => by
    rw [List.flatMap_cons, List.foldl_append]
    have e : (ep y).foldl (putF 50) ⟨L, lnOf x, false⟩ = ⟨L ++ [lnOf x], lnOf y, false⟩ := by
      unfold ep
      rw [List.foldl_cons]
      show (wp y).foldl (putF 50) ⟨L ++ [lnOf x], ln0, false⟩ = _
      exact put_wp (h y List.mem_cons_self)
    rw [e, brk_kept r _ y fun z hz => h z (List.mem_cons_of_mem _ hz)]
    simp [List.dropLast]
theorem lnOf_runs {x : Str} : (lnOf x).runs = [] ↔ x = "" := by
  unfold lnOf
  by_cases h : x = ""
  · rw [if_pos h]; exact ⟨fun _ => h, fun _ => rfl⟩
  · rw [if_neg h]; exact ⟨fun z => absurd z (List.cons_ne_nil _ _), fun z => absurd z h⟩
theorem kept_law {M : List Str} (hM : M ≠ []) (h : ∀ y ∈ M, y.length ≤ 50) : (linesF (brk 50 (keptL M))).map shT = (if M.getLast hM = "" then M.dropLast else M) ∧ ∀ ln ∈ linesF (brk 50 (keptL M)), ∀ r ∈ ln.runs, r.tx ∈ M := by
  cases M with
  | nil => exact absurd rfl hM
  | cons x r =>
    have e : brk 50 (keptL (x :: r)) = ⟨(x :: r).dropLast.map lnOf, lnOf ((x :: r).getLast hM), false⟩ := by
      unfold brk
      rw [keptL_cons, List.foldl_append]
      show (r.flatMap ep).foldl (putF 50) ((wp x).foldl (putF 50) ⟨[], ln0, false⟩) = _
      rw [put_wp (h x List.mem_cons_self), brk_kept r _ x fun z hz => h z (List.mem_cons_of_mem _ hz)]
      rfl
    have m1 : ∀ y, ∀ r ∈ (lnOf y).runs, r.tx = y := fun y r hr => by
      unfold lnOf at hr
      split at hr
      · cases hr
      · rw [List.mem_singleton.mp hr]
    have mt : ∀ L : List Str, (L.map lnOf).map shT = L := fun L => by
      rw [List.map_map]
      exact (List.map_congr_left fun y _ => shT_of y).trans (List.map_id _)
    rw [e]
    generalize hl : (x :: r).getLast hM = z
    have hz : z ∈ x :: r := by rw [← hl]; exact List.getLast_mem hM
    unfold linesF
    by_cases c : z = ""
    · rw [if_pos (lnOf_runs.mpr c), if_pos c]
      refine ⟨mt _, fun ln hn q hq => ?_⟩
      obtain ⟨y, hy, rfl⟩ := List.mem_map.mp hn
      rw [m1 y q hq]
      exact (List.dropLast_sublist _).subset hy
    · rw [if_neg (fun k => c (lnOf_runs.mp k)), if_neg c]
      have ea : (x :: r).dropLast ++ [z] = x :: r := by rw [← hl]; exact List.dropLast_concat_getLast hM
      have eb : (Bk.mk ((x :: r).dropLast.map lnOf) (lnOf z) false).all = (x :: r).map lnOf := by
        rw [← ea, List.map_append, ea]
        rfl
      rw [eb]
      refine ⟨mt _, fun ln hn q hq => ?_⟩
      obtain ⟨y, hy, rfl⟩ := List.mem_map.mp hn
      rw [m1 y q hq]
      exact hy
theorem upper_ok {z : Str} (h : ∀ c ∈ z.cps.toList, c < 128) (hl : z.length ≤ 100) : SOk (Txt.upper z) := by
  rw [PyProof.Rows.upper_ascii (x := z) h]
  refine ⟨?_, sok_all.mpr fun c hc => ?_⟩
  · show (z.cps.map up1).size ≤ _
    rw [Array.size_map]
    exact Nat.le_trans hl (Nat.le_of_ble_eq_true rfl)
  · have hc : c ∈ (z.cps.map up1).toList := hc
    rw [Array.toList_map] at hc
    obtain ⟨d, hd, rfl⟩ := List.mem_map.mp hc
    have := h d hd
    unfold up1
    split <;> omega
end K05

open PySem PySem.Spec PyProof.Rows L2 Pr Dn LamX
/-! the law's state -/
namespace K05
abbrev lcx (P : Program) (w : World) (K : PySem.W.Frag) (mg : Str → Option Value) (base : Heap) (f : Addr) (cdv : Value) (A : Around) (outer : List Env) (s : Shared) (HE : Hp) (E : XK) : Cx := cxOf (L2.CX P w) P w K mg base sl_law "law" (defScope s_law) f cdv A outer s HE E
def bd_s0 : List Stmt := stFor (nth (defBody s_law) 1)
def bd_rb : List Stmt := stFor (nth bd_s0 1)
def bd_s2 : List Stmt := bd_s0.drop 2
def bd_s5 : List Stmt := bd_s0.drop 5
def bd_s7 : List Stmt := bd_s0.drop 7
def bd_al : List Stmt := stFor (nth bd_s0 7)
def bd_s8 : List Stmt := bd_s0.drop 8
def bd_s9 : List Stmt := bd_s0.drop 9
def bd_s12 : List Stmt := bd_s0.drop 12
def bd_tail : List Stmt := (defBody s_law).drop 2
/-- an element whose value is shown as v -/
def ShAt (K : PySem.W.Frag) (S : Store) (a : Addr) (v : Str) : Prop := ∃ k tag tx t c par val chk fd, S a = some (nodeC K k tag tx t c par (.str val) (.bl chk)) ∧ S t = some (.dic (dkD fd)) ∧ val.length ≤ 100000 ∧ shownV fd val chk = v
structure TrAt (K : PySem.W.Frag) (S : Store) (na a1 a3 a4 a5 : Addr) : Prop where
  hl : S na = some (.lst [.ref a1, .ref a3, .ref a4, .ref a5])
  h1 : ∃ k tag tx t c par vl ck, S a1 = some (nodeC K k tag tx t c par vl ck)
  h3 : ShAt K S a3 "[x]"
  h4 : ShAt K S a4 "[v]"
  h5 : ShAt K S a5 ""
def Ten (S : Store) (d : Addr) : Prop := ∃ x n k : Int, S d = some (.lst [.int x, .int n, .int k])
theorem ShAt.of {K : PySem.W.Frag} {S S' : Store} {a : Addr} {v : Str} (h : ShAt K S a v) (k : ∀ x c, S x = some c → (∀ l, c ≠ .lst l) → S' x = some c) : ShAt K S' a v := by
  obtain ⟨k1, tag, tx, t, c, par, val, chk, fd, h1, h2, h3⟩ := h
  exact ⟨k1, tag, tx, t, c, par, val, chk, fd, k _ _ h1 (fun l z => by cases z), k _ _ h2 (fun l z => by cases z), h3⟩
theorem TrAt.of {K : PySem.W.Frag} {S S' : Store} {na a1 a3 a4 a5 : Addr} (h : TrAt K S na a1 a3 a4 a5) (k : ∀ x c, S x = some c → (∀ l, c = .lst l → l.length ≠ 3) → S' x = some c) : TrAt K S' na a1 a3 a4 a5 := by
  have k2 : ∀ x c, S x = some c → (∀ l, c ≠ .lst l) → S' x = some c := fun x c hx hc => k x c hx fun l z => absurd z (hc l)
  refine ⟨k _ _ h.hl (fun l z => by cases z; exact Nat.ne_of_beq_eq_false rfl), ?_, h.h3.of k2, h.h4.of k2, h.h5.of k2⟩
  obtain ⟨k1, tag, tx, t, c, par, vl, ck, e⟩ := h.h1
  exact ⟨k1, tag, tx, t, c, par, vl, ck, k2 _ _ e (fun l z => by cases z)⟩
structure Pst (K : PySem.W.Frag) (S : Store) (d na a1 a3 a4 a5 p : Addr) (rows : List (Str × Str)) (ps : List (Addr × Pc)) : Prop where
  di : Ten S d
  tr : TrAt K S na a1 a3 a4 a5
  hp : S p = some (.lst (rows.map rowD))
  pd : p ≠ d
  hr : ∀ y ∈ rows, RowOk y ∧ y.2.length ≤ 11
  nr : rows.length ≤ 20
  hpc : ∀ y ∈ ps, S y.1 = some (pcC K y.2.kind y.2.text a1 y.2.w)
section
variable {K : PySem.W.Frag} {S S' : Store} {d na a1 a3 a4 a5 p : Addr} {rows : List (Str × Str)} {ps : List (Addr × Pc)}
theorem Pst.le (h : Pst K S d na a1 a3 a4 a5 p rows ps) (le : Le S S') : Pst K S' d na a1 a3 a4 a5 p rows ps := by
  obtain ⟨x, n, k, hd⟩ := h.di
  exact ⟨⟨x, n, k, le _ _ hd⟩, h.tr.of fun x c hx _ => le x c hx, le _ _ h.hp, h.pd, h.hr, h.nr, fun y hy => le _ _ (h.hpc y hy)⟩
theorem Pst.dice (h : Pst K S d na a1 a3 a4 a5 p rows ps) (x y z : Int) : Pst K (sput S d (.lst [.int x, .int y, .int z])) d na a1 a3 a4 a5 p rows ps := by
  obtain ⟨x', n, k, hd⟩ := h.di
  have ne : ∀ b c, S b = some c → (∀ l, c = .lst l → l.length ≠ 3) → sput S d (.lst [.int x, .int y, .int z]) b = some c := fun b c hb hc => by
    rw [sput_ne (fun e => by rw [e, hd] at hb; cases hb; exact hc _ rfl rfl)]
    exact hb
  exact ⟨⟨x, y, z, sput_same⟩, h.tr.of ne, by rw [sput_ne h.pd]; exact h.hp, h.pd, h.hr, h.nr, fun q hq => ne _ _ (h.hpc q hq) (fun l z => by cases z)⟩
theorem Pst.roll {m : Int} {q : DK} {e : DX} (h : Pst K S d na a1 a3 a4 a5 p rows ps) (hm : 0 < m ∧ m ≤ 100000000) (kk : ∀ r S', 0 ≤ r → r < m → Pst K S' d na a1 a3 a4 a5 p rows ps → q (.int r) S') : Dn.cRoll [.ref d, .int m] S q e := by
  obtain ⟨x, n, k, hd⟩ := h.di
  exact ⟨d, x, n, k, m, rfl, hd, hm, fun r x' n' k' r0 r1 => kk r _ r0 r1 (h.dice _ _ _)⟩
/-- one row more -/
theorem Pst.row (h : Pst K S d na a1 a3 a4 a5 p rows []) {y : Str × Str} (hy : RowOk y) (hl : y.2.length ≤ 11) (hn : rows.length < 20) : Pst K (sput S p (.lst (rows.map rowD ++ [rowD y]))) d na a1 a3 a4 a5 p (rows ++ [y]) [] := by
  obtain ⟨x', n, k, hd⟩ := h.di
  have nl : ∀ b c, S b = some c → (∀ l, c ≠ .lst l) → b ≠ p := fun b c hb hc e => by rw [e, h.hp] at hb; cases hb; exact hc _ rfl
  have np : na ≠ p := fun e => by
    have g := h.tr.hl
    rw [e, h.hp] at g
    injection g with g
    injection g with g
    cases rows with
    | nil => cases g
    | cons y r => cases g
  have k2 : ∀ x c, S x = some c → (∀ l, c ≠ .lst l) → sput S p (.lst (rows.map rowD ++ [rowD y])) x = some c := fun x c hx hc => by rw [sput_ne (nl x c hx hc)]; exact hx
  refine ⟨⟨x', n, k, by rw [sput_ne h.pd.symm]; exact hd⟩, ⟨by rw [sput_ne np]; exact h.tr.hl, ?_, h.tr.h3.of k2, h.tr.h4.of k2, h.tr.h5.of k2⟩, by rw [sput_same, List.map_append]; rfl, h.pd, fun z hz => ?_, by rw [List.length_append, List.length_singleton]; omega, nofun⟩
  · obtain ⟨k1, tag, tx, t, c, par, vl, ck, e⟩ := h.tr.h1
    exact ⟨k1, tag, tx, t, c, par, vl, ck, k2 _ _ e (fun l z => by cases z)⟩
  · rcases List.mem_append.mp hz with hz | hz
    · exact h.hr z hz
    · rw [List.mem_singleton.mp hz]; exact ⟨hy, hl⟩
/-- one piece more -/
theorem Pst.piece (h : Pst K S d na a1 a3 a4 a5 p rows ps) {m : Addr} (hm : S m = none) (q : Pc) : Pst K (sput S m (pcC K q.kind q.text a1 q.w)) d na a1 a3 a4 a5 p rows (ps ++ [(m, q)]) := by
  have h2 := h.le (Le.refl.put hm (c := pcC K q.kind q.text a1 q.w))
  refine ⟨h2.di, h2.tr, h2.hp, h2.pd, h2.hr, h2.nr, fun y hy => ?_⟩
  rcases List.mem_append.mp hy with hy | hy
  · exact h2.hpc y hy
  · rw [List.mem_singleton.mp hy]; exact sput_same
end
/-- the promises that the law leans on -/
structure Env5 (P : Program) (w : World) (K : PySem.W.Frag) (mg : Str → Option Value) (base : Heap) : Prop where
  k_Piece : MakX P w K mg base 1 "Piece" (He.ga K "Piece") (spD K (cPiece K)) []
  m_Piece_shown : MetX P w K mg base 1 (He.ga K "Piece") "shown" (spD K (cShown K)) []
  c_break_lines : CalX P w K mg base 5 "break_lines" (spD K (cBreak K)) []
  c_widest : CalX P w K mg base 6 "widest" (spD K (cWidest K)) []
  c_kept_pieces : CalX P w K mg base 3 "kept_pieces" (spD K (cKept K)) []
  c_transformed : CalX P w K mg base 1 "transformed" (spD K cTrans) []
  c_shown_value : CalX P w K mg base 2 "shown_value" (spD K (cShownV K)) []
  c__law_roll : CalX P w K mg base 1 "_law_roll" (spD K Dn.cRoll) []
  c__law_lines : CalX P w K mg base 1 "_law_lines" (spD K (cLines K)) []
def SlA (δ : DS) (na d p : Addr) : Prop := ∃ u0 u4 u5 u6 u7 u8 u9 u10 u11 u12 u13 u14 u15 u16 u17 u18 u19 u20 u21 u22 u23 u24, δ = u0 :: some (.ref na) :: some (.ref d) :: some (.ref p) :: u4 :: u5 :: u6 :: u7 :: u8 :: [u9, u10, u11, u12, u13, u14, u15, u16, u17, u18, u19, u20, u21, u22, u23, u24]
/-- where a turn of the law ends -/
def SlE (δ : DS) (na : Addr) : Prop := ∃ u0 u2 u3 u4 u5 u6 u7 u8 u9 u10 u11 u12 u13 u14 u15 u16 u17 u18 u19 u20 u21 u22 u23 u24, δ = u0 :: some (.ref na) :: u2 :: u3 :: u4 :: u5 :: u6 :: u7 :: u8 :: [u9, u10, u11, u12, u13, u14, u15, u16, u17, u18, u19, u20, u21, u22, u23, u24]
end K05

open PySem PySem.Spec PyProof.Rows L2 Pr Dn LamX

namespace K05
theorem row_word {r : Int} (r0 : 0 ≤ r) (r1 : r < 11) : RowOk ("word", cutS "abcdefghijk" none (some (1 + r))) ∧ (cutS "abcdefghijk" none (some (1 + r))).length ≤ 11 := by
  obtain ⟨n, rfl⟩ := Int.eq_ofNat_of_zero_le r0
  rw [show (1 + (n : Int)) = ((1 + n : Nat) : Int) by omega]
  have e := takeS_ln (t := "abcdefghijk") (n := 1 + n)
  have e0 : ("abcdefghijk" : Str).length = 11 := by decide +kernel
  have t0 : TOk ("abcdefghijk" : Str) := ⟨sok_of (by decide +kernel), by rw [e0]; decide⟩
  rw [e0] at e
  refine ⟨.inl ⟨rfl, fun z => ?_, t0.take (1 + n)⟩, ?_⟩
  · have z : takeS "abcdefghijk" (1 + n) = "" := z
    rw [z, show ("" : Str).length = 0 from rfl] at e
    omega
  · show (takeS "abcdefghijk" (1 + n)).length ≤ 11
    omega
theorem row_thing {r : Int} (r0 : 0 ≤ r) (r1 : r < 3) : RowOk ("thing", cutS "###" none (some (1 + r))) ∧ (cutS "###" none (some (1 + r))).length ≤ 11 := by
  rcases (by omega : r = 0 ∨ r = 1 ∨ r = 2) with rfl | rfl | rfl
  · exact ⟨.inr (.inr (.inr ⟨rfl, by decide +kernel, by decide +kernel, by decide +kernel⟩)), by decide +kernel⟩
  · exact ⟨.inr (.inr (.inr ⟨rfl, by decide +kernel, by decide +kernel, by decide +kernel⟩)), by decide +kernel⟩
  · exact ⟨.inr (.inr (.inr ⟨rfl, by decide +kernel, by decide +kernel, by decide +kernel⟩)), by decide +kernel⟩
section
variable {P : Program} {w : World} {K : PySem.W.Frag} {mg : Str → Option Value} {base : Heap} {f : Addr} {cdv : Value} {A0 : Around} {outer : List Env} {s0 : Shared} {HE : Hp} {E : XK} {e : DX}
theorem bl_rb (T : Tx K mg) (V : Env5 P w K mg base) (hr : Room 39 (A0.deeper (envOfC "law" (defScope s_law) s0.heap.objs.size f cdv))) :
    ∃ t, PSs (lcx P w K mg base f cdv A0 outer s0 HE E) bd_rb (tDS K E e t) ∧ ∀ (D : DEnds) (δ : DS) (S : Store) (d na a1 a3 a4 a5 p : Addr) (rows : List (Str × Str)), SlA δ na d p → Pst K S d na a1 a3 a4 a5 p rows [] → rows.length < 20 →
      (∀ δ' S' y, SlA δ' na d p → Pst K S' d na a1 a3 a4 a5 p (rows ++ [y]) [] → D.nx δ' S') → t D δ S := by
  have c__law_roll := V.c__law_roll
  refine ⟨_, (dss_cons (ds_set (i := 5) sc_law.nd rfl (Or.inl rfl) (de_call rfl c__law_roll dfl_nil hr (by decide) rfl paX (da_cons (dv (pv 2)) (da_cons de_int da_nil))))
  (dss_one (ds_expr (de_bm rfl is_ls PySem.F.plainAttrs_list PySem.F.slot_list_append PySem.F.type_list_append md_append (dv (pv 3)) (da_cons (de_ix rfl (de_lst (da_cons (de_tup (da_cons de_str (da_cons (de_sl rfl de_str do_none (do_some (de_op (od_add rfl) de_int (de_call rfl c__law_roll dfl_nil hr (by decide) rfl paX (da_cons (dv (pv 2)) (da_cons de_int da_nil)))))) da_nil))) (da_cons (de_tup (da_cons de_str (da_cons de_str da_nil))) (da_cons (de_tup (da_cons de_str (da_cons de_str da_nil))) (da_cons (de_tup (da_cons de_str (da_cons (de_sl rfl de_str do_none (do_some (de_op (od_add rfl) de_int (de_call rfl c__law_roll dfl_nil hr (by decide) rfl paX (da_cons (dv (pv 2)) (da_cons de_int da_nil)))))) da_nil))) da_nil))))) (de_ix rfl (de_lst (da_cons de_int (da_cons de_int (da_cons de_int (da_cons de_int (da_cons de_int (da_cons de_int (da_cons de_int (da_cons de_int da_nil))))))))) (dv (pv 5)))) da_nil))))), fun D δ S d na a1 a3 a4 a5 p rows ⟨u0, u4, u5, u6, u7, u8, u9, u10, u11, u12, u13, u14, u15, u16, u17, u18, u19, u20, u21, u22, u23, u24, hδ⟩ st hn nx => ?_⟩
  subst hδ
  walk_at "go"
  refine st.roll (by decide) fun r S1 r0 r1 st1 => ?_
  have hp1 := st1.hp
  walk_at "go"
  refine st1.roll (by decide) fun r2 S2 r20 r21 st2 => ?_
  obtain ⟨w1, w2⟩ := row_word r20 r21
  walk_at "go"
  generalize cutS "abcdefghijk" none (some (1 + r2)) = wd at w1 w2 ⊢
  refine st2.roll (by decide) fun r3 S3 r30 r31 st3 => ?_
  obtain ⟨w3, w4⟩ := row_thing r30 r31
  have hp3 := st3.hp
  walk_at "go"
  generalize cutS "###" none (some (1 + r3)) = th at w3 w4 ⊢
  obtain ⟨j, y, g1, g2, g3, g4⟩ : ∃ (j : Int) (y : Str × Str), atI [Dt.int 0, .int 0, .int 0, .int 1, .int 1, .int 1, .int 2, .int 3] r = some (.int j) ∧ atI [Dt.tup [.str "word", .str wd], .tup [.str "space", .str " "], .tup [.str "end", .str ""], .tup [.str "thing", .str th]] j = some (rowD y) ∧ RowOk y ∧ y.2.length ≤ 11 := by
    have sp : RowOk ("space", " ") ∧ (" " : Str).length ≤ 11 := ⟨.inr (.inl ⟨rfl, rfl⟩), by decide +kernel⟩
    have en : RowOk ("end", "") ∧ ("" : Str).length ≤ 11 := ⟨.inr (.inr (.inl ⟨rfl, rfl⟩)), by decide +kernel⟩
    rcases (by omega : r = 0 ∨ r = 1 ∨ r = 2 ∨ r = 3 ∨ r = 4 ∨ r = 5 ∨ r = 6 ∨ r = 7) with rfl | rfl | rfl | rfl | rfl | rfl | rfl | rfl
    · exact ⟨0, ("word", wd), rfl, rfl, w1, w2⟩
    · exact ⟨0, ("word", wd), rfl, rfl, w1, w2⟩
    · exact ⟨0, ("word", wd), rfl, rfl, w1, w2⟩
    · exact ⟨1, ("space", " "), rfl, rfl, sp⟩
    · exact ⟨1, ("space", " "), rfl, rfl, sp⟩
    · exact ⟨1, ("space", " "), rfl, rfl, sp⟩
    · exact ⟨2, ("end", ""), rfl, rfl, en⟩
    · exact ⟨3, ("thing", th), rfl, rfl, w3, w4⟩
  refine ⟨_, g1, ?_⟩
  walk_at "go"
  refine ⟨_, g2, ?_⟩
  walk_at "go"
  exact nx _ _ y ⟨_, _, _, _, _, _, _, _, _, _, _, _, _, _, _, _, _, _, _, _, _, _, rfl⟩ (st3.row g3 g4 hn)
end
end K05

open PySem PySem.Spec PyProof.Rows L2 Pr Dn LamX
/-! lines that stand in the store, read -/
namespace K05
theorem LnsAt.zip {K : PySem.W.Frag} {S0 S : Store} {nd : Addr} {LA : List (Addr × Addr)} {Ls : List Ln} (h : LnsAt K S0 S nd LA Ls) : ∀ x ∈ LA.zip Ls, S x.1.1 = some (lnC K x.1.2 x.2.w) ∧ S x.1.2 = some (.lst (x.2.runs.map (runD nd))) := by
  intro x hx
  obtain ⟨i, hi⟩ := List.getElem?_of_mem hx
  rw [List.getElem?_zip_eq_some] at hi
  exact h.lns i _ _ _ hi.1 hi.2
theorem LnsAt.refs {K : PySem.W.Frag} {S0 S : Store} {nd : Addr} {LA : List (Addr × Addr)} {Ls : List Ln} (h : LnsAt K S0 S nd LA Ls) : (LA.map fun y => Dt.ref y.1) = (LA.zip Ls).map fun x => Dt.ref x.1.1 := by
  have e : (LA.zip Ls).map (·.1) = LA := List.map_fst_zip (by rw [h.len]; exact Nat.le_refl _)
  exact (congrArg (List.map fun y : Addr × Addr => Dt.ref y.1) e.symm).trans (List.map_map ..)
theorem LnsAt.vals {K : PySem.W.Frag} {S0 S : Store} {nd : Addr} {LA : List (Addr × Addr)} {Ls : List Ln} (h : LnsAt K S0 S nd LA Ls) (g : Ln → Dt) : ((LA.zip Ls).map fun x => g x.2) = Ls.map g := by
  have e : (LA.zip Ls).map (·.2) = Ls := List.map_snd_zip (by rw [h.len]; exact Nat.le_refl _)
  exact (List.map_map (f := (·.2)) (g := g) (l := LA.zip Ls)).symm.trans (congrArg (List.map g) e)
theorem shT_shift {al : Str} {w : Nat} {ln : Ln} : shT (shiftLn al w ln) = shT ln := by
  unfold shT shiftLn
  rw [List.map_map]
  rfl
theorem shL_shift {al : Str} {w : Nat} {ln : Ln} : shL (shiftLn al w ln) = shL ln := by
  unfold shL shiftLn
  rw [List.map_map]
  rfl
theorem strs_dat (ys : List Str) : DatN (.lst (ys.map Dt.str)) 1 := DatN.lstM fun x _ => ⟨rfl, Nat.zero_le _⟩
theorem ints_dat (ys : List Int) : DatN (.lst (ys.map Dt.int)) 1 := DatN.lstM fun x _ => ⟨rfl, Nat.zero_le _⟩
/-- lines of the breaker are short enough to be looked at -/
theorem brk_sz {w c : Nat} : ∀ (ps : List Pc) (b : Bk) (k : Nat), Sz b k → (∀ q ∈ ps, 4 * q.text.length + 8 ≤ c) → Sz (ps.foldl (putF w) b) (k + ps.length * c)
  | [], b, k, h, _ => h.le (by omega)
  | q :: r, b, k, h, hq => by
    have h1 := hq q List.mem_cons_self
    have := brk_sz (w := w) r _ _ (putF_sz (lim := w) (p := q) h) fun x hx => hq x (List.mem_cons_of_mem _ hx)
    exact this.le (by rw [List.length_cons, Nat.add_mul, Nat.one_mul]; omega)
theorem lines_sz {w c : Nat} {ps : List Pc} (hq : ∀ q ∈ ps, 4 * q.text.length + 8 ≤ c) (hc : ps.length * c ≤ 80000) : (linesF (brk w ps)).length ≤ 90000 ∧ ∀ ln ∈ linesF (brk w ps), ln.runs.length ≤ 90000 := by
  have h : Sz (brk w ps) (1 + ps.length * c) := brk_sz ps bk0 1 ⟨Nat.zero_le _, nofun⟩ hq
  unfold linesF
  split
  · exact ⟨by have := h.l; omega, fun ln hn => by have := h.L ln hn; omega⟩
  · refine ⟨by have := h.l; unfold Bk.all; rw [List.length_append, List.length_singleton]; omega, fun ln hn => ?_⟩
    rcases List.mem_append.mp hn with hn | hn
    · have := h.L ln hn; omega
    · rw [List.mem_singleton.mp hn]; have := h.l; omega
end K05

open PySem PySem.Spec PyProof.Rows L2 Pr Dn LamX

namespace K05
/-- slots when the pieces stand -/
def SlP (δ : DS) (na d p : Addr) (ps : List (Addr × Pc)) (w : Nat) (u8 u9 u10 u15 : Option Dt) : Prop := ∃ u0 u4 u5 u11 u12 u13 u14 u16 u17 u18 u19 u20 u21 u22 u23 u24, δ = u0 :: some (.ref na) :: some (.ref d) :: some (.ref p) :: u4 :: u5 :: some (.lst (ps.map fun y => Dt.ref y.1)) :: some (.int (w : Nat)) :: u8 :: [u9, u10, u11, u12, u13, u14, u15, u16, u17, u18, u19, u20, u21, u22, u23, u24]
def EndS (K : PySem.W.Frag) (D : DEnds) (na a1 a3 a4 a5 : Addr) : Prop := ∀ δ' S', SlE δ' na → TrAt K S' na a1 a3 a4 a5 → D.nx δ' S'
section
variable {P : Program} {w : World} {K : PySem.W.Frag} {mg : Str → Option Value} {base : Heap} {f : Addr} {cdv : Value} {A0 : Around} {outer : List Env} {s0 : Shared} {HE : Hp} {E : XK} {e : DX}
theorem bl_s12 (T : Tx K mg) (V : Env5 P w K mg base) (hr : Room 39 (A0.deeper (envOfC "law" (defScope s_law) s0.heap.objs.size f cdv))) :
    ∃ t, PSs (lcx P w K mg base f cdv A0 outer s0 HE E) bd_s12 (tDS K E e t) ∧ ∀ (D : DEnds) (δ : DS) (S : Store) (d na a1 a3 a4 a5 p : Addr) (rows : List (Str × Str)) (ps : List (Addr × Pc)) (w : Nat) (u8 u9 u10 : Option Dt) (z : Str), SlP δ na d p ps w u8 u9 u10 (some (.str z)) → Pst K S d na a1 a3 a4 a5 p rows ps → ps.map (·.2) = rows.map pcOf → z.length ≤ 100 → (∀ c ∈ z.cps.toList, c < 128) → EndS K D na a1 a3 a4 a5 → t D δ S := by
  have c_transformed := V.c_transformed
  have m_Piece_shown := V.m_Piece_shown
  refine ⟨_, (dss_one (ds_if (PW.pt (dt_or (dt_cmp (od_ne rfl (hU_of hr)) (de_call rfl c_transformed dfl_nil hr (by decide) rfl paX (da_cons (dv (pv 15)) (da_cons de_str da_nil))) (de_bm0 rfl is_tx PySem.F.plainAttrs_str PySem.F.slot_str_upper PySem.F.type_str_upper md_upper (dv (pv 15)))) (dt_or (dt_cmp (od_ne rfl (hU_of hr)) (de_call rfl c_transformed dfl_nil hr (by decide) rfl paX (da_cons (dv (pv 15)) (da_cons de_str da_nil))) (dv (pv 15))) (pw_or1 (PW.pt (dt_and (dt_cmp (od_neN (hW_of hr)) (dv (pv 6)) (de_lst da_nil)) (pw_and1 (dt_cmp (od_ne rfl (hU_of hr)) (de_ixC (n := 0) rfl (de_meth0 (nm := nm_Piece) rfl m_Piece_shown (by decide +kernel) dfl_nil hr (by decide) paX (de_ixC (n := 0) rfl (dv (pv 6))))) (de_ixC (n := 0) rfl (de_ixC (n := 0) rfl (dv (pv 3)))))))))))) (dss_one (ds_ret de_bl)) dss_nil)), fun D δ S d na a1 a3 a4 a5 p rows ps w u8 u9 u10 z ⟨u0, u4, u5, u11, u12, u13, u14, u16, u17, u18, u19, u20, u21, u22, u23, u24, hδ⟩ st hps hz hz2 nx => ?_⟩
  subst hδ
  walk_at "go"
  have hu := upper_ok hz2 hz
  refine ⟨z, "upper", rfl, .inl ⟨rfl, by omega, hu, ?_⟩⟩
  walk_at "go"
  refine ⟨z, "none", rfl, .inr ⟨rfl, ?_⟩⟩
  walk_at "go"
  cases ps with
  | nil =>
    walk_at "go"
    rw [show (!(List.map (fun y : Addr × Pc => Dt.ref y.1) []).isEmpty) = false from rfl]
    walk_at "go"
    exact nx _ _ ⟨_, _, _, _, _, _, _, _, _, _, _, _, _, _, _, _, _, _, _, _, _, _, _, _, rfl⟩ st.tr
  | cons x r =>
    cases rows with
    | nil => cases hps
    | cons y rr =>
      injection hps with e1 e2
      have g1 := st.hpc x List.mem_cons_self
      rw [show x.2 = pcOf y from e1] at g1
      have hp := st.hp
      obtain ⟨k1, tag, tx, t, c, par, vl, ck, g2⟩ := st.tr.h1
      walk_at "go"
      rw [show (!(List.map (fun y : Addr × Pc => Dt.ref y.1) (x :: r)).isEmpty) = true from rfl]
      walk_at "go"
      rw [List.map_cons] at hp ⊢
      walk_at "go"
      refine ⟨_, _, _, _, _, _, _, _, _, _, _, _, _, rfl, g1, g2, ?_⟩
      walk_at "go"
      rw [show (!decide ((pcOf y).kind = y.1)) = false by rw [decide_eq_true (show (pcOf y).kind = y.1 from rfl)]; rfl]
      walk_at "go"
      exact nx _ _ ⟨_, _, _, _, _, _, _, _, _, _, _, _, _, _, _, _, _, _, _, _, _, _, _, _, rfl⟩ st.tr
theorem bl_tail (T : Tx K mg) (V : Env5 P w K mg base) (hr : Room 39 (A0.deeper (envOfC "law" (defScope s_law) s0.heap.objs.size f cdv))) :
    ∃ t, PSs (lcx P w K mg base f cdv A0 outer s0 HE E) bd_tail (tDS K E e t) ∧ ∀ (D : DEnds) (δ : DS) (S : Store) (na a1 a3 a4 a5 : Addr), SlE δ na → TrAt K S na a1 a3 a4 a5 → (∀ S', D.rt (.bl true) S') → t D δ S := by
  have c_shown_value := V.c_shown_value
  refine ⟨_, (dss_one (ds_ret (de_cmp (od_eqV rfl (hU_of hr)) (de_lc (own := [("one", 21)]) rfl sc_law.nd (di_lst rfl (de_sl rfl (dv (pv 1)) (do_some de_int) do_none)) (blkOk_by (own := [("one", 21)]) (N := sl_law) (sc := defScope s_law) (by decide +kernel)) (fun _ _ _ _ _ => (gw_name (i := 21) sc_law.nd rfl (Or.inl rfl) (by decide))) (fun _ _ _ _ _ => ts_nil) (fun _ _ _ _ _ => (de_call rfl c_shown_value dfl_nil hr (by decide) rfl passL (da_cons (dv (pv 21)) da_nil)))) (de_lst (da_cons de_str (da_cons de_str (da_cons de_str da_nil))))))), fun D δ S na a1 a3 a4 a5 ⟨u0, u2, u3, u4, u5, u6, u7, u8, u9, u10, u11, u12, u13, u14, u15, u16, u17, u18, u19, u20, u21, u22, u23, u24, hδ⟩ tr nx => ?_⟩
  subst hδ
  have hl := tr.hl
  walk_at "go"
  rw [cutD_from1, show List.drop 1 [Dt.ref a1, .ref a3, .ref a4, .ref a5] = [((a3, "[x]") : Addr × Str), (a4, "[v]"), (a5, "")].map (fun y => Dt.ref y.1) from rfl]
  refine ⟨size6 (by show 3 ≤ _; decide), lc_go ?_⟩
  refine lc_map (fun y : Addr × Str => Dt.ref y.1) (fun y : Addr × Str => Dt.str y.2) trivial _ (fun y hy kY kN hY => ?_) ?_
  · have hs : ShAt K S y.1 y.2 := by
      simp only [List.mem_cons, List.not_mem_nil, or_false] at hy
      rcases hy with rfl | rfl | rfl
      · exact tr.h3
      · exact tr.h4
      · exact tr.h5
    obtain ⟨k, tag, tx, t, c, par, val, chk, fd, g1, g2, g3, g4⟩ := hs
    walk_at "go"
    refine ⟨_, _, _, _, _, _, _, _, _, _, rfl, g1, g2, g3, ?_⟩
    rw [g4]
    exact hY
  · walk_at "go"
    show dEq (.lst [Dt.str "[x]", .str "[v]", .str ""]) (.lst [Dt.str "[x]", .str "[v]", .str ""]) S D.rt
    exact eq_self (by decide +kernel) (by decide +kernel) (nx _)
end
end K05

open PySem PySem.Spec PyProof.Rows L2 Pr Dn LamX

namespace K05
theorem SOk.lit4 : ∀ x ∈ ([("a" : Str), "b", " ", "\n"]), (SOk x ∧ x.length ≤ 1) ∧ ∀ c ∈ x.cps.toList, c < 128 := by
  intro x hx
  simp only [List.mem_cons, List.not_mem_nil, or_false] at hx
  rcases hx with rfl | rfl | rfl | rfl
  · exact ⟨⟨sok_of (by decide +kernel), by decide +kernel⟩, by decide +kernel⟩
  · exact ⟨⟨sok_of (by decide +kernel), by decide +kernel⟩, by decide +kernel⟩
  · exact ⟨⟨sok_of (by decide +kernel), by decide +kernel⟩, by decide +kernel⟩
  · exact ⟨⟨sok_of (by decide +kernel), by decide +kernel⟩, by decide +kernel⟩
theorem lit4_at {r : Int} (r0 : 0 ≤ r) (r1 : r < 4) : ∃ (x : Str) (c : Nat), x ∈ ([("a" : Str), "b", " ", "\n"]) ∧ atI ("ab \n" : Str).cps.toList r = some c ∧ (⟨#[c]⟩ : Str) = x := by
  rcases (by omega : r = 0 ∨ r = 1 ∨ r = 2 ∨ r = 3) with rfl | rfl | rfl | rfl
  · exact ⟨"a", 97, by decide, by decide +kernel, by decide +kernel⟩
  · exact ⟨"b", 98, by decide, by decide +kernel, by decide +kernel⟩
  · exact ⟨" ", 32, by decide, by decide +kernel, by decide +kernel⟩
  · exact ⟨"\n", 10, by decide, by decide +kernel, by decide +kernel⟩
theorem wp_all {x : Str} : (wp x).length ≤ 1 ∧ ∀ q ∈ wp x, q.text = x := by
  unfold wp
  split
  · exact ⟨Nat.le_refl _, fun q h => by rw [List.mem_singleton.mp h]⟩
  · exact ⟨Nat.zero_le _, nofun⟩
theorem fm_all : ∀ (r : List Str), (r.flatMap ep).length ≤ 2 * r.length ∧ ∀ q ∈ r.flatMap ep, q.text = "" ∨ q.text ∈ r
  | [] => ⟨Nat.le_refl _, nofun⟩
  | x :: r => by
    obtain ⟨h1, h2⟩ := fm_all r
    obtain ⟨w1, w2⟩ := wp_all (x := x)
    rw [List.flatMap_cons]
    refine ⟨?_, fun q hq => ?_⟩
    · rw [List.length_append, List.length_cons]
      show (wp x).length + 1 + _ ≤ _
      omega
    · rcases List.mem_append.mp hq with hq | hq
      · rcases List.mem_cons.mp hq with rfl | hq
        · exact .inl rfl
        · exact .inr (by rw [w2 q hq]; exact List.mem_cons_self)
      · exact (h2 q hq).imp id (List.mem_cons_of_mem _)
theorem kept_all {M : List Str} : (keptL M).length ≤ 2 * M.length ∧ ∀ q ∈ keptL M, q.text = "" ∨ q.text ∈ M := by
  cases M with
  | nil => exact ⟨Nat.le_refl _, nofun⟩
  | cons x r =>
    obtain ⟨h1, h2⟩ := fm_all r
    obtain ⟨w1, w2⟩ := wp_all (x := x)
    rw [keptL_cons]
    refine ⟨by rw [List.length_append, List.length_cons]; omega, fun q hq => ?_⟩
    rcases List.mem_append.mp hq with hq | hq
    · exact .inr (by rw [w2 q hq]; exact List.mem_cons_self)
    · exact (h2 q hq).imp id (List.mem_cons_of_mem _)
section
variable {P : Program} {w : World} {K : PySem.W.Frag} {mg : Str → Option Value} {base : Heap} {f : Addr} {cdv : Value} {A0 : Around} {outer : List Env} {s0 : Shared} {HE : Hp} {E : XK} {e : DX}
theorem bl_s9 (T : Tx K mg) (V : Env5 P w K mg base) (hr : Room 39 (A0.deeper (envOfC "law" (defScope s_law) s0.heap.objs.size f cdv))) :
    ∃ t, PSs (lcx P w K mg base f cdv A0 outer s0 HE E) bd_s9 (tDS K E e t) ∧ ∀ (D : DEnds) (δ : DS) (S : Store) (d na a1 a3 a4 a5 p : Addr) (rows : List (Str × Str)) (ps : List (Addr × Pc)) (w : Nat) (u8 u9 u10 u15 : Option Dt), SlP δ na d p ps w u8 u9 u10 u15 → Pst K S d na a1 a3 a4 a5 p rows ps → ps.map (·.2) = rows.map pcOf → EndS K D na a1 a3 a4 a5 → t D δ S := by
  obtain ⟨t12, p_s12, h_s12⟩ := bl_s12 (f := f) (cdv := cdv) (A0 := A0) (outer := outer) (s0 := s0) (HE := HE) (E := E) (e := e) T V hr
  have c__law_roll := V.c__law_roll
  have c_break_lines := V.c_break_lines
  have c_kept_pieces := V.c_kept_pieces
  refine ⟨_, (dss_cons (ds_set (i := 15) sc_law.nd rfl (Or.inl rfl) (de_bm rfl is_tx PySem.F.plainAttrs_str PySem.F.slot_str_join PySem.F.type_str_join (md_join rfl) de_str (da_cons (de_lc (own := [("k", 4)]) rfl sc_law.nd (di_range1 (by rfl) T.b_range (da_cons (de_call rfl c__law_roll dfl_nil hr (by decide) rfl paX (da_cons (dv (pv 2)) (da_cons de_int da_nil))) da_nil)) (blkOk_by (own := [("k", 4)]) (N := sl_law) (sc := defScope s_law) (by decide +kernel)) (fun _ _ _ _ _ => (gw_name (i := 4) sc_law.nd rfl (Or.inl rfl) (by decide))) (fun _ _ _ _ _ => ts_nil) (fun _ _ _ _ _ => (de_ix rfl de_str (de_call rfl c__law_roll dfl_nil hr (by decide) rfl passL (da_cons (dv (pv 2)) (da_cons de_int da_nil)))))) da_nil)))
  (dss_cons (ds_set (i := 18) sc_law.nd rfl (Or.inl rfl) (de_call rfl c_break_lines dfl_nil hr (by decide) rfl paX (da_cons (de_call rfl c_kept_pieces dfl_nil hr (by decide) rfl paX (da_cons (dv (pv 15)) (da_cons (de_ixC (n := 0) rfl (dv (pv 1))) da_nil))) (da_cons de_int (da_cons de_str da_nil)))))
  (dss_cons (ds_if (dt_cmp (od_neV rfl (hU_of hr)) (de_lc (own := [("line", 13)]) rfl sc_law.nd (di_lst rfl (dv (pv 18))) (blkOk_by (own := [("line", 13)]) (N := sl_law) (sc := defScope s_law) (by decide +kernel)) (fun _ _ _ _ _ => (gw_name (i := 13) sc_law.nd rfl (Or.inl rfl) (by decide))) (fun _ _ _ _ _ => ts_nil) (fun _ _ _ _ _ => (de_bm rfl is_tx PySem.F.plainAttrs_str PySem.F.slot_str_join PySem.F.type_str_join (md_join rfl) de_str (da_cons (de_lc (own := [("run", 24)]) rfl sc_law.nd (di_lst rfl (de_fld rfl (fd_Line_runs T) (dv (pv 13)))) (blkOk_by (own := [("run", 24)]) (by kernel_rfl)) (fun _ _ _ _ _ => (gw_name (i := 24) sc_law.nd rfl (Or.inl rfl) (by decide))) (fun _ _ _ _ _ => ts_nil) (fun _ _ _ _ _ => (de_ixC (n := 1) rfl (dv (pv 24))))) da_nil)))) (de_if (dt_cmp (od_eq rfl (hU_of hr)) (de_ix rfl (de_bm rfl is_tx PySem.F.plainAttrs_str PySem.F.slot_str_split PySem.F.type_str_split md_split1 (dv (pv 15)) (da_cons de_str da_nil)) (de_neg de_int)) de_str) (de_sl rfl (de_bm rfl is_tx PySem.F.plainAttrs_str PySem.F.slot_str_split PySem.F.type_str_split md_split1 (dv (pv 15)) (da_cons de_str da_nil)) do_none (do_some (de_neg de_int))) (de_bm rfl is_tx PySem.F.plainAttrs_str PySem.F.slot_str_split PySem.F.type_str_split md_split1 (dv (pv 15)) (da_cons de_str da_nil)))) (dss_one (ds_ret de_bl)) dss_nil)
  p_s12))), fun D δ S d na a1 a3 a4 a5 p rows ps w u8 u9 u10 u15 ⟨u0, u4, u5, u11, u12, u13, u14, u16, u17, u18, u19, u20, u21, u22, u23, u24, hδ⟩ st hps nx => ?_⟩
  subst hδ
  walk_at "go"
  refine st.roll (by decide) fun r S1 r0 r1 st1 => ?_
  obtain ⟨j, rfl⟩ := Int.eq_ofNat_of_zero_le r0
  walk_at "go"
  rw [Int.toNat_natCast, show rangeD 0 j = (List.range j).map (fun (i : Nat) => Dt.int i) from rangeD0 j]
  refine ⟨by rw [List.length_map, List.length_range]; exact size6 (by omega), lc_go ?_⟩
  refine lc_at (fun (i : Nat) => Dt.int i) (List.range j) (fun i acc S => ∃ D' : List Str, acc = D'.map Dt.str ∧ D'.length = i ∧ (∀ x ∈ D', x ∈ ([("a" : Str), "b", " ", "\n"])) ∧ Pst K S d na a1 a3 a4 a5 p rows ps) (fun _ _ _ _ => trivial) (fun i x acc S' hx hI kY kN hY hN => ?_) (fun acc S' hI => ?_) ⟨[], rfl, rfl, nofun, st1⟩
  · obtain ⟨D', rfl, dl, dm, st'⟩ := hI
    walk_at "go"
    refine st'.roll (by decide) fun r S2 r0 r1 st2 => ?_
    obtain ⟨x, c, hx, hcx, ex⟩ := lit4_at r0 r1
    walk_at "go"
    refine ⟨c, hcx, ?_⟩
    rw [ex]
    exact hY _ _ ⟨D' ++ [x], by rw [List.map_append]; rfl, by rw [List.length_append, dl]; rfl, fun y hy => (List.mem_append.mp hy).elim (dm y) fun e => by rw [List.mem_singleton.mp e]; exact hx, st2⟩
  · obtain ⟨D', rfl, dl, dm, st'⟩ := hI
    rw [List.length_range] at dl
    walk_at "go"
    refine join_go (ys := D') (k := 1) (.inr rfl) SOk.empty (fun y hy => (SOk.lit4 y (dm y hy)).1) (by show D'.length * (1 + 0) ≤ _; omega) ?_
    have zl : (Txt.join "" D').length ≤ 20 := by
      have := (sok_join (s := "") (k := 1) (ys := D') SOk.empty (fun y hy => (SOk.lit4 y (dm y hy)).1) (by show D'.length * (1 + 0) ≤ _; omega)).2
      rw [show ("" : Str).length = 0 from rfl] at this
      omega
    have zc : ∀ c ∈ (Txt.join "" D').cps.toList, c < 128 := fun c hc => by
      rw [join_e] at hc
      obtain ⟨l, hl, hc⟩ := List.mem_flatten.mp hc
      obtain ⟨y, hy, rfl⟩ := List.mem_map.mp hl
      exact (SOk.lit4 y (dm y hy)).2 c hc
    generalize Txt.join "" D' = z at zl zc ⊢
    obtain ⟨k1, tag, tx, t, c, par, vl, ck, g2⟩ := st'.tr.h1
    have hl := st'.tr.hl
    walk_at "go"
    have hsl := PyProof.Rows.split_le z "\n"
    refine ⟨z, a1, rfl, by omega, by omega, fun S2 pk pl le2 fk hk ek hkp => ?_⟩
    obtain ⟨ka, kb⟩ := kept_all (M := Txt.split z "\n")
    have kt : ∀ y ∈ pl, y.2.text.length ≤ 20 := fun y hy => by
      have m : y.2 ∈ keptF z := by rw [← ek]; exact List.mem_map.mpr ⟨y, hy, rfl⟩
      rcases kb _ m with h | h
      · rw [h]; exact Nat.zero_le _
      · exact Nat.le_trans (Dn.split_len _ h) zl
    have kl : pl.length ≤ 44 := by
      have := congrArg List.length ek
      rw [List.length_map] at this
      have : (keptF z).length ≤ 2 * (Txt.split z "\n").length := ka
      omega
    walk_at "go"
    refine ⟨_, pl, a1, 50, "left", 100, rfl, .inr ⟨pk, rfl, hk⟩, fun y hy => ⟨hkp y hy, by have := kt y hy; omega⟩, by omega, .inl rfl, fun S3 pq LA hl3 fq hq => ?_⟩
    rw [ek] at hl3
    have hM : Txt.split z "\n" ≠ [] := fun e => by have := split_pos z "\n"; rw [e] at this; exact Nat.lt_irrefl 0 this
    have zs : SOk z := ⟨Nat.le_trans zl (Nat.le_of_ble_eq_true rfl), sok_all.mpr fun c hc => Nat.lt_trans (zc c hc) (by decide)⟩
    have hMo : ∀ y ∈ Txt.split z "\n", SOk y ∧ y.length ≤ 20 := fun y hy => ⟨SOk.split zs _ y hy, Nat.le_trans (Dn.split_len _ hy) zl⟩
    obtain ⟨kw1, kw2⟩ := kept_law hM fun y hy => by have := (hMo y hy).2; omega
    obtain ⟨sz1, sz2⟩ := lines_sz (w := 50) (c := 100) (ps := keptF z) (fun q hq => by
      obtain ⟨y, hy, rfl⟩ := List.mem_map.mp (by rw [ek]; exact hq : q ∈ pl.map (·.2))
      have := kt y hy
      omega) (by have := congrArg List.length ek; rw [List.length_map] at this; omega)
    have kw1 : (linesF (brk 50 (keptF z))).map shT = _ := kw1
    have kw2 : ∀ ln ∈ linesF (brk 50 (keptF z)), _ := kw2
    generalize linesF (brk 50 (keptF z)) = Lb at hl3 kw1 kw2 sz1 sz2
    have er := hl3.refs
    have lz : ∀ x ∈ LA.zip (Lb.map (shiftLn "left" 50)), x.2.runs.length ≤ 90000 ∧ ∀ r ∈ x.2.runs, SOk r.tx ∧ r.tx.length ≤ 20 := fun x hx => by
      obtain ⟨ln, hln, e⟩ := List.mem_map.mp (List.of_mem_zip (a := x.1) (b := x.2) hx).2
      rw [← e]
      unfold shiftLn
      refine ⟨by rw [List.length_map]; exact sz2 ln hln, fun r hr => ?_⟩
      obtain ⟨r', hr', rfl⟩ := List.mem_map.mp hr
      exact hMo _ (kw2 ln hln r' hr')
    rw [er] at hq
    walk_at "go"
    have lal : LA.length ≤ 90000 := by rw [hl3.len, List.length_map]; exact sz1
    refine ⟨by rw [← er, List.length_map]; exact size6 (by omega), lc_go ?_⟩
    refine lc_map (fun x : (Addr × Addr) × Ln => Dt.ref x.1.1) (fun x : (Addr × Addr) × Ln => Dt.str (shT x.2)) hq _ (fun x hx kY kN hY => ?_) ?_
    · obtain ⟨g1, g2⟩ := hl3.zip x hx
      obtain ⟨q1, q2⟩ := lz x hx
      walk_at "go"
      refine ⟨by rw [List.length_map]; exact size6 (by omega), lc_go ?_⟩
      refine lc_map (runD a1) (fun r : Run => Dt.str r.tx) g2 _ (fun r hr kY' kN' hY' => ?_) ?_
      · walk_at "go"
        exact hY'
      · walk_at "go"
        refine join_go (ys := x.2.runs.map (·.tx)) (k := 20) (.inr (by rw [List.map_map]; rfl)) SOk.empty (fun y hy => ?_) (by rw [List.length_map]; show _ * (20 + 0) ≤ _; omega) ?_
        · obtain ⟨r, hr, rfl⟩ := List.mem_map.mp hy
          exact q2 r hr
        · walk_at "go"
          exact hY
    · rw [hl3.vals (fun ln => Dt.str (shT ln)), List.map_map, show (fun ln => Dt.str (shT ln)) ∘ shiftLn "left" 50 = Dt.str ∘ shT from funext fun ln => congrArg Dt.str shT_shift, ← List.map_map, kw1]
      have st4 := ((st'.le le2).le hl3.le)
      have at1 : atI ((Txt.split z "\n").map Dt.str) (-1) = some (.str ((Txt.split z "\n").getLast hM)) := atI_last (by rw [List.length_map, List.getElem?_map, ← List.getLast?_eq_getElem?, List.getLast?_eq_some_getLast hM]; rfl) (by rw [List.length_map]; exact List.length_pos_iff.mpr hM)
      walk_at "go"
      refine ⟨_, at1, ?_⟩
      have fin : t12 D [u0, some (Dt.ref na), some (Dt.ref d), some (Dt.ref p), u4, u5, some (Dt.lst (List.map (fun y => Dt.ref y.1) ps)), some (Dt.int w), u8, u9, u10, u11, u12, u13, u14, some (.str z), u16, u17, some (.ref pq), u19, u20, u21, u22, u23, u24] S3 := h_s12 _ _ _ d na a1 a3 a4 a5 p rows ps w u8 u9 u10 z ⟨_, _, _, _, _, _, _, _, _, _, _, _, _, _, _, _, rfl⟩ st4 hps (by omega) zc nx
      walk_at "go"
      refine ift (fun h => ?_) (fun h => ?_)
      · walk_at "go"
        rw [if_pos h, cut_initX, ← List.map_dropLast]
        refine (strs_dat _).ne (by decide) ?_
        walk_at "go"
        exact fin
      · walk_at "go"
        rw [if_neg h]
        refine (strs_dat _).ne (by decide) ?_
        walk_at "go"
        exact fin
end
end K05

open PySem PySem.Spec PyProof.Rows L2 Pr Dn LamX

namespace K05
theorem Pst.txt {K : PySem.W.Frag} {S : Store} {d na a1 a3 a4 a5 p : Addr} {rows : List (Str × Str)} {ps : List (Addr × Pc)} (st : Pst K S d na a1 a3 a4 a5 p rows ps) (hps : ps.map (·.2) = rows.map pcOf) : (∀ y ∈ ps, y.2.text.length ≤ 11) ∧ ps.length ≤ 20 := by
  refine ⟨fun y hy => ?_, ?_⟩
  · have m : y.2 ∈ rows.map pcOf := by rw [← hps]; exact List.mem_map.mpr ⟨y, hy, rfl⟩
    obtain ⟨r, hr, e⟩ := List.mem_map.mp m
    have := (st.hr r hr).2
    rw [← e]
    unfold pcOf
    show (if r.1 = "thing" then ("" : Str) else r.2).length ≤ 11
    split
    · exact Nat.zero_le _
    · exact this
  · have := congrArg List.length hps
    rw [List.length_map, List.length_map] at this
    have := st.nr
    omega
theorem pc_sz {rows : List (Str × Str)} (h : ∀ y ∈ rows, RowOk y ∧ y.2.length ≤ 11) (hn : rows.length ≤ 20) {lim : Nat} : (linesF (brk lim (rows.map pcOf))).length ≤ 90000 ∧ ∀ ln ∈ linesF (brk lim (rows.map pcOf)), ln.runs.length ≤ 90000 := by
  refine lines_sz (c := 60) (fun q hq => ?_) (by rw [List.length_map]; omega)
  obtain ⟨r, hr, rfl⟩ := List.mem_map.mp hq
  have := (h r hr).2
  have : (pcOf r).text.length ≤ 11 := by
    unfold pcOf
    show (if r.1 = "thing" then ("" : Str) else r.2).length ≤ 11
    split
    · exact Nat.zero_le _
    · exact this
  omega
theorem law_sz {rows : List (Str × Str)} (h : ∀ y ∈ rows, RowOk y ∧ y.2.length ≤ 11) (hn : rows.length ≤ 20) {lim : Nat} (h1 : 1 ≤ lim) : (lawF lim rows).length ≤ 90000 := by
  rw [← (lines_law h1 fun y hy => (h y hy).1).1, List.length_map]
  exact (pc_sz h hn).1
section
variable {P : Program} {w : World} {K : PySem.W.Frag} {mg : Str → Option Value} {base : Heap} {f : Addr} {cdv : Value} {A0 : Around} {outer : List Env} {s0 : Shared} {HE : Hp} {E : XK} {e : DX}
theorem bl_s8 (T : Tx K mg) (V : Env5 P w K mg base) (hr : Room 39 (A0.deeper (envOfC "law" (defScope s_law) s0.heap.objs.size f cdv))) :
    ∃ t, PSs (lcx P w K mg base f cdv A0 outer s0 HE E) bd_s8 (tDS K E e t) ∧ ∀ (D : DEnds) (δ : DS) (S : Store) (d na a1 a3 a4 a5 p : Addr) (rows : List (Str × Str)) (ps : List (Addr × Pc)) (w : Nat) (u8 u9 u10 u15 : Option Dt), SlP δ na d p ps w u8 u9 u10 u15 → Pst K S d na a1 a3 a4 a5 p rows ps → ps.map (·.2) = rows.map pcOf → EndS K D na a1 a3 a4 a5 → t D δ S := by
  obtain ⟨t9, p_s9, h_s9⟩ := bl_s9 (f := f) (cdv := cdv) (A0 := A0) (outer := outer) (s0 := s0) (HE := HE) (E := E) (e := e) T V hr
  have c_widest := V.c_widest
  have c__law_lines := V.c__law_lines
  refine ⟨_, (dss_cons (ds_if (dt_cmp (od_ne rfl (hU_of hr)) (de_call rfl c_widest dfl_nil hr (by decide) rfl paX (da_cons (dv (pv 6)) da_nil)) (de_callB (cd_maxL rfl rfl) (by rfl) T.b_max (by decide +kernel) (da_cons (de_op (od_add rfl) (de_lst (da_cons de_int da_nil)) (de_lc (own := [("line", 13)]) rfl sc_law.nd (di_lst rfl (de_call rfl c__law_lines dfl_nil hr (by decide) rfl paX (da_cons (dv (pv 3)) (da_cons (de_op od_pow de_int de_int) da_nil)))) (blkOk_by (own := [("line", 13)]) (N := sl_law) (sc := defScope s_law) (by decide +kernel)) (fun _ _ _ _ _ => (gw_name (i := 13) sc_law.nd rfl (Or.inl rfl) (by decide))) (fun _ _ _ _ _ => ts_nil) (fun _ _ _ _ _ => (de_callB (cd_len rfl) (by rfl) T.b_len (by decide +kernel) (da_cons (dv (pv 13)) da_nil))))) da_nil))) (dss_one (ds_ret de_bl)) dss_nil)
  p_s9), fun D δ S d na a1 a3 a4 a5 p rows ps w u8 u9 u10 u15 ⟨u0, u4, u5, u11, u12, u13, u14, u16, u17, u18, u19, u20, u21, u22, u23, u24, hδ⟩ st hps nx => ?_⟩
  subst hδ
  obtain ⟨tx, pl⟩ := st.txt hps
  walk_at "go"
  refine ⟨ps, a1, 60, rfl, fun y hy => ⟨st.hpc y hy, by have := tx y hy; omega⟩, by omega, fun S1 le1 => ?_⟩
  have st1 := st.le le1
  have hp1 := st1.hp
  walk_at "go"
  have hr11 : ∀ y ∈ rows, y.2.length ≤ 11 := fun y hy => (st.hr y hy).2
  have nr := st.nr
  have h10 : (10 : Int) ^ Int.toNat 6 = ((1000000 : Nat) : Int) := by decide +kernel
  rw [h10]
  refine ⟨p, rows, 1000000, 60, rfl, hp1, by decide, fun y hy => by have := hr11 y hy; omega, by omega, fun S2 q le2 fq hq => ?_⟩
  have st2 := st1.le le2
  walk_at "go"
  refine ⟨?_, lc_go ?_⟩
  · rw [List.length_map]
    exact size6 (by have := law_sz st.hr nr (lim := 1000000) (by decide); omega)
  refine lc_map Dt.str (fun z => Dt.int (z.length : Nat)) hq _ (fun x hx kY kN hY => ?_) ?_
  · walk_at "go"
    exact hY
  · have lz := law_sz st.hr nr (lim := 1000000) (by decide)
    walk_at "go"
    refine ⟨by rw [List.length_map]; exact Nat.le_of_lt (size6 (by show 1 + _ ≤ _; omega)), ?_⟩
    walk_at "go"
    refine ⟨(0 : Int) :: (lawF 1000000 rows).map (fun z => (z.length : Int)), ?_, Nat.succ_pos _, fun m hm hy => ?_⟩
    · rw [List.map_cons, List.map_map]
      rfl
    · have em := widest_law (c := 12) (rows := rows) (fun y hy => (st.hr y hy).1) (fun y hy => by have := hr11 y hy; omega) (by omega) hm hy
      rw [hps]
      walk_at "go"
      rw [decide_eq_true em.symm]
      walk_at "go"
      exact h_s9 _ _ _ d na a1 a3 a4 a5 p rows ps w u8 u9 u10 u15 ⟨_, _, _, _, _, _, _, _, _, _, _, _, _, _, _, _, rfl⟩ st2 hps nx
end
end K05

open PySem PySem.Spec PyProof.Rows L2 Pr Dn LamX

namespace K05
theorem LnsAt.le' {K : PySem.W.Frag} {S0 S S' : Store} {nd : Addr} {LA : List (Addr × Addr)} {Ls : List Ln} (h : LnsAt K S0 S nd LA Ls) (le : Le S S') : LnsAt K S0 S' nd LA Ls :=
  ⟨h.len, fun i a r ln h1 h2 => (h.lns i a r ln h1 h2).imp (le _ _) (le _ _), h.na, h.nr, h.le.trans le, h.fA⟩
structure Fst (K : PySem.W.Frag) (S : Store) (a1 fa da : Addr) (rows : List (Str × Str)) (w : Nat) (LA : List (Addr × Addr)) : Prop where
  hf : S fa = some (.lst (LA.map fun y => Dt.ref y.1))
  hl : ∃ S0, LnsAt K S0 S a1 LA ((linesF (brk w (rows.map pcOf))).map (shiftLn "left" w))
  hd : S da = some (.lst ((lawF w rows).map Dt.str))
theorem Fst.le {K : PySem.W.Frag} {S S' : Store} {a1 fa da : Addr} {rows : List (Str × Str)} {w : Nat} {LA : List (Addr × Addr)} (h : Fst K S a1 fa da rows w LA) (le : Le S S') : Fst K S' a1 fa da rows w LA := by
  obtain ⟨S0, hl⟩ := h.hl
  exact ⟨le _ _ h.hf, ⟨S0, hl.le' le⟩, le _ _ h.hd⟩
abbrev Tp := (Addr × Addr) × (Addr × Addr) × Ln
@[reducible] def tpD (x : Tp) : Dt := .tup [.ref x.1.1, .ref x.2.1.1, .str (shL x.2.2)]
theorem tp_zip {K : PySem.W.Frag} {S0 S1 S : Store} {nd : Addr} {LA LB : List (Addr × Addr)} {Lb : List Ln} {al bl : Str} {w : Nat} (h : LnsAt K S0 S nd LA (Lb.map (shiftLn al w))) (g : LnsAt K S1 S nd LB (Lb.map (shiftLn bl w))) :
    zip3D (LA.map fun y => Dt.ref y.1) (LB.map fun y => Dt.ref y.1) ((Lb.map shL).map Dt.str) = (LA.zip (LB.zip Lb)).map tpD ∧ ∀ x ∈ LA.zip (LB.zip Lb), S x.1.1 = some (lnC K x.1.2 x.2.2.w) ∧ S x.1.2 = some (.lst ((shiftLn al w x.2.2).runs.map (runD nd))) ∧ S x.2.1.1 = some (lnC K x.2.1.2 x.2.2.w) ∧ S x.2.1.2 = some (.lst ((shiftLn bl w x.2.2).runs.map (runD nd))) ∧ x.2.2 ∈ Lb := by
  have la := h.len
  have lb := g.len
  rw [List.length_map] at la lb
  have lz : (LB.zip Lb).length = Lb.length := by rw [List.length_zip, lb, Nat.min_self]
  have e1 : (LA.zip (LB.zip Lb)).map (·.1) = LA := List.map_fst_zip (by rw [lz, la]; exact Nat.le_refl _)
  have e2 : (LA.zip (LB.zip Lb)).map (·.2) = LB.zip Lb := List.map_snd_zip (by rw [lz, la]; exact Nat.le_refl _)
  have e3 : (LB.zip Lb).map (·.1) = LB := List.map_fst_zip (by rw [lb]; exact Nat.le_refl _)
  have e4 : (LB.zip Lb).map (·.2) = Lb := List.map_snd_zip (by rw [lb]; exact Nat.le_refl _)
  have f1 : (LA.map fun y => Dt.ref y.1) = (LA.zip (LB.zip Lb)).map fun x => Dt.ref x.1.1 := (congrArg (List.map fun y : Addr × Addr => Dt.ref y.1) e1.symm).trans (List.map_map ..)
  have f2 : (LB.map fun y => Dt.ref y.1) = (LA.zip (LB.zip Lb)).map fun x => Dt.ref x.2.1.1 := by
    refine ((congrArg (List.map fun y : Addr × Addr => Dt.ref y.1) e3.symm).trans (List.map_map ..)).trans ?_
    exact (congrArg (List.map fun y : (Addr × Addr) × Ln => Dt.ref y.1.1) e2.symm).trans (List.map_map ..)
  have f3 : ((Lb.map shL).map Dt.str) = (LA.zip (LB.zip Lb)).map fun x => Dt.str (shL x.2.2) := by
    rw [List.map_map]
    refine ((congrArg (List.map (Dt.str ∘ shL)) e4.symm).trans (List.map_map ..)).trans ?_
    exact (congrArg (List.map fun y : (Addr × Addr) × Ln => Dt.str (shL y.2)) e2.symm).trans (List.map_map ..)
  refine ⟨by rw [f1, f2, f3, zip3D_map], fun x hx => ?_⟩
  obtain ⟨i, hi⟩ := List.getElem?_of_mem hx
  rw [List.getElem?_zip_eq_some, List.getElem?_zip_eq_some] at hi
  obtain ⟨i1, i2, i3⟩ := hi
  obtain ⟨q1, q2⟩ := h.lns i _ _ _ i1 (by rw [List.getElem?_map, i3]; rfl)
  obtain ⟨q3, q4⟩ := g.lns i _ _ _ i2 (by rw [List.getElem?_map, i3]; rfl)
  exact ⟨q1, q2, q3, q4, List.mem_of_getElem? i3⟩
/-- slots when the lines stand -/
def SlF (δ : DS) (na d p : Addr) (ps : List (Addr × Pc)) (w : Nat) (fa da : Addr) (u11 : Option Dt) : Prop := ∃ u0 u4 u5 u10 u12 u13 u14 u15 u16 u17 u18 u19 u20 u21 u22 u23 u24, δ = u0 :: some (.ref na) :: some (.ref d) :: some (.ref p) :: u4 :: u5 :: some (.lst (ps.map fun y => Dt.ref y.1)) :: some (.int (w : Nat)) :: some (.ref fa) :: [some (.ref da), u10, u11, u12, u13, u14, u15, u16, u17, u18, u19, u20, u21, u22, u23, u24]
section
variable {P : Program} {w : World} {K : PySem.W.Frag} {mg : Str → Option Value} {base : Heap} {f : Addr} {cdv : Value} {A0 : Around} {outer : List Env} {s0 : Shared} {HE : Hp} {E : XK} {e : DX}
set_option hygiene false in
local macro_rules | `(tactic| walk_at "cm") => `(tactic| (
  walk_at "go"
  rw [es]
  refine ⟨by rw [List.length_map, List.length_map]; exact size6 (by omega), lc_go ?_⟩
  refine lc_map (runD a1) (fun r : Run => Dt.int ((r.pl : Int) - c)) g2 _ (fun r hr kY kN hY => ?_) ?_
  · walk_at "go"
    exact hY
  · walk_at "go"
    refine ⟨by rw [List.length_map, List.length_map]; exact size6 (by omega), lc_go ?_⟩
    refine lc_map (runD a1) (fun r : Run => Dt.int (r.pl : Int)) g4 _ (fun r hr kY kN hY => ?_) ?_
    · walk_at "go"
      exact hY
    · rw [e7, e8]
      refine (ints_dat _).ne (by decide) ?_
      walk_at "go"
      exact kk _ _ ⟨_, _, _, _, _, _, _, _, _, _, _, _, _, _, _, _, rfl, rfl⟩))
theorem bl_al (T : Tx K mg) (V : Env5 P w K mg base) (hr : Room 39 (A0.deeper (envOfC "law" (defScope s_law) s0.heap.objs.size f cdv))) :
    ∃ t, PSs (lcx P w K mg base f cdv A0 outer s0 HE E) bd_al (tDS K E e t) ∧ ∀ (D : DEnds) (δ : DS) (S : Store) (d na a1 a3 a4 a5 p : Addr) (rows : List (Str × Str)) (ps : List (Addr × Pc)) (w : Nat) (fa da : Addr) (LA : List (Addr × Addr)) (al : Str), al = "center" ∨ al = "right" → 1 ≤ w → SlF δ na d p ps w fa da (some (.str al)) → Pst K S d na a1 a3 a4 a5 p rows ps → ps.map (·.2) = rows.map pcOf → Fst K S a1 fa da rows w LA →
      (∀ δ' S' u, SlF δ' na d p ps w fa da u → Pst K S' d na a1 a3 a4 a5 p rows ps → Fst K S' a1 fa da rows w LA → D.nx δ' S') → t D δ S := by
  have c_break_lines := V.c_break_lines
  refine ⟨_, (dss_cons (ds_set (i := 12) sc_law.nd rfl (Or.inl rfl) (de_call rfl c_break_lines dfl_nil hr (by decide) rfl paX (da_cons (dv (pv 6)) (da_cons (dv (pv 7)) (da_cons (dv (pv 11)) da_nil)))))
  (dss_one (ds_for poX rfl (di_zip3 rfl (by rfl) T.b_zip (da_cons (dv (pv 12)) (da_cons (dv (pv 8)) (da_cons (dv (pv 9)) da_nil)))) (dg_tup (n := 3) rfl rfl (dgs_cons (dg_name (i := 13) sc_law.nd rfl (Or.inl rfl)) (dgs_cons (dg_name (i := 14) sc_law.nd rfl (Or.inl rfl)) (dgs_cons (dg_name (i := 15) sc_law.nd rfl (Or.inl rfl)) dgs_nil)))) (dss_cons (ds_set (i := 16) sc_law.nd rfl (Or.inl rfl) (de_callB (cd_max rfl) (by rfl) T.b_max (by decide +kernel) (da_cons de_int (da_cons (de_op od_sub (dv (pv 7)) (de_callB (cd_len rfl) (by rfl) T.b_len (by decide +kernel) (da_cons (dv (pv 15)) da_nil))) da_nil))))
  (dss_cons (ds_set (i := 17) sc_law.nd rfl (Or.inr rfl) (de_if (dt_cmp (od_eq rfl (hU_of hr)) (dv (pv 11)) de_str) (dv (pv 16)) (de_op od_fdiv (dv (pv 16)) de_int)))
  (dss_one (ds_if (dt_cmp (od_neV rfl (hU_of hr)) (de_lc (own := [("place", 20), ("text_now", 23), ("one", 21), ("wide", 22)]) rfl sc_law.nd (di_lst rfl (de_fld rfl (fd_Line_runs T) (dv (pv 13)))) (blkOk_by (own := [("place", 20), ("text_now", 23), ("one", 21), ("wide", 22)]) (N := sl_law) (sc := defScope s_law) (by decide +kernel)) (fun _ _ _ _ _ => (gw_tup (n := 4) rfl rfl (gws_cons (gw_name (i := 20) sc_law.nd rfl (Or.inl rfl) (by decide)) (gws_cons (gw_name (i := 23) sc_law.nd rfl (Or.inl rfl) (by decide)) (gws_cons (gw_name (i := 21) sc_law.nd rfl (Or.inl rfl) (by decide)) (gws_cons (gw_name (i := 22) sc_law.nd rfl (Or.inl rfl) (by decide)) gws_nil)))))) (fun _ _ _ _ _ => ts_nil) (fun _ _ _ _ _ => (de_op od_sub (dv (pv 20)) (dv (pv 17))))) (de_lc (own := [("place", 20), ("text_now", 23), ("one", 21), ("wide", 22)]) rfl sc_law.nd (di_lst rfl (de_fld rfl (fd_Line_runs T) (dv (pv 14)))) (blkOk_by (own := [("place", 20), ("text_now", 23), ("one", 21), ("wide", 22)]) (N := sl_law) (sc := defScope s_law) (by decide +kernel)) (fun _ _ _ _ _ => (gw_tup (n := 4) rfl rfl (gws_cons (gw_name (i := 20) sc_law.nd rfl (Or.inl rfl) (by decide)) (gws_cons (gw_name (i := 23) sc_law.nd rfl (Or.inl rfl) (by decide)) (gws_cons (gw_name (i := 21) sc_law.nd rfl (Or.inl rfl) (by decide)) (gws_cons (gw_name (i := 22) sc_law.nd rfl (Or.inl rfl) (by decide)) gws_nil)))))) (fun _ _ _ _ _ => ts_nil) (fun _ _ _ _ _ => (dv (pv 20))))) (dss_one (ds_ret de_bl)) dss_nil))))))), fun D δ S d na a1 a3 a4 a5 p rows ps w fa da LA al hal hw ⟨u0, u4, u5, u10, u12, u13, u14, u15, u16, u17, u18, u19, u20, u21, u22, u23, u24, hδ⟩ st hps fs nx => ?_⟩
  subst hδ
  obtain ⟨tx, pl⟩ := st.txt hps
  walk_at "go"
  refine ⟨_, ps, a1, w, al, 60, rfl, .inl rfl, fun y hy => ⟨st.hpc y hy, by have := tx y hy; omega⟩, by omega, .inr hal, fun S1 m LB hl fm hm => ?_⟩
  rw [hps] at hl
  have st1 := st.le hl.le
  have fs1 := fs.le hl.le
  obtain ⟨S0, hl0⟩ := fs1.hl
  obtain ⟨w1, w2, w3⟩ := lines_law hw fun y hy => (st.hr y hy).1
  obtain ⟨z1, z2⟩ := pc_sz (lim := w) st.hr st.nr
  have hd1 := fs1.hd
  have hf1 := fs1.hf
  rw [← w1] at hd1
  generalize linesF (brk w (rows.map pcOf)) = Lb at hl hl0 w1 w2 w3 z1 z2 hd1
  obtain ⟨e1, e2⟩ := tp_zip hl hl0
  walk_at "go"
  refine ⟨_, _, _, hm, hf1, hd1, ?_⟩
  rw [e1]
  walk_at "go"
  refine forGo_at tpD (LB.zip (LA.zip Lb)) (fun i δ S2 => ∃ u0 u4 u5 u10 u13 u14 u15 u16 u17 u18 u19 u20 u21 u22 u23 u24, δ = u0 :: some (.ref na) :: some (.ref d) :: some (.ref p) :: u4 :: u5 :: some (.lst (ps.map fun y => Dt.ref y.1)) :: some (.int (w : Nat)) :: some (.ref fa) :: [some (.ref da), u10, some (.str al), some (.ref m), u13, u14, u15, u16, u17, u18, u19, u20, u21, u22, u23, u24] ∧ S2 = S1) (fun i δ S' hI => ?_) (fun i y δ S' hy hI nx2 kk => ?_) (fun δ S' hI => ?_) ⟨_, _, _, _, _, _, _, _, _, _, _, _, _, _, _, _, rfl, rfl⟩
  · obtain ⟨_, _, _, _, _, _, _, _, _, _, _, _, _, _, _, _, _, rfl⟩ := hI
    exact ⟨hm, hf1, hd1⟩
  · obtain ⟨u0, u4, u5, u10, u13, u14, u15, u16, u17, u18, u19, u20, u21, u22, u23, u24, rfl, rfl⟩ := hI
    obtain ⟨g1, g2, g3, g4, g5⟩ := e2 y (List.mem_of_getElem? hy)
    have lw := w2 _ g5
    have rl := z2 _ g5
    have el : (shiftLn "left" w y.2.2).runs = y.2.2.runs.map (shiftR 0) := by
      unfold shiftLn
      rw [if_pos rfl]
    rw [el] at g4
    walk_at "go"
    rcases hal with rfl | rfl
    · obtain ⟨c, hc⟩ : ∃ c, c = (w - y.2.2.w) / 2 := ⟨_, rfl⟩
      have er : (shiftLn "center" w y.2.2).runs = y.2.2.runs.map (shiftR c) := by
        unfold shiftLn
        rw [if_neg (by decide), if_pos rfl, hc]
      rw [er] at g2
      rw [decide_eq_false (show ¬ (("center" : Str) = "right") by decide)]
      have es : (max 0 ((w : Int) - ((shL y.2.2).length : Nat))) / 2 = (c : Nat) := by rw [hc, lw]; omega
      have e7 : (y.2.2.runs.map (shiftR c)).map (fun r : Run => Dt.int ((r.pl : Int) - c)) = (y.2.2.runs.map fun r => (r.pl : Int)).map Dt.int := by
        rw [List.map_map, List.map_map]
        exact List.map_congr_left fun r _ => congrArg Dt.int (by show ((r.pl + c : Nat) : Int) - c = r.pl; omega)
      have e8 : (y.2.2.runs.map (shiftR 0)).map (fun r : Run => Dt.int (r.pl : Int)) = (y.2.2.runs.map fun r => (r.pl : Int)).map Dt.int := by
        rw [List.map_map, List.map_map]
        rfl
      walk_at "cm"
    · obtain ⟨c, hc⟩ : ∃ c, c = w - y.2.2.w := ⟨_, rfl⟩
      have er : (shiftLn "right" w y.2.2).runs = y.2.2.runs.map (shiftR c) := by
        unfold shiftLn
        rw [if_neg (by decide), if_neg (by decide), hc]
      rw [er] at g2
      rw [decide_eq_true (show ("right" : Str) = "right" from rfl)]
      have es : (max 0 ((w : Int) - ((shL y.2.2).length : Nat))) = (c : Nat) := by rw [hc, lw]; omega
      have e7 : (y.2.2.runs.map (shiftR c)).map (fun r : Run => Dt.int ((r.pl : Int) - c)) = (y.2.2.runs.map fun r => (r.pl : Int)).map Dt.int := by
        rw [List.map_map, List.map_map]
        exact List.map_congr_left fun r _ => congrArg Dt.int (by show ((r.pl + c : Nat) : Int) - c = r.pl; omega)
      have e8 : (y.2.2.runs.map (shiftR 0)).map (fun r : Run => Dt.int (r.pl : Int)) = (y.2.2.runs.map fun r => (r.pl : Int)).map Dt.int := by
        rw [List.map_map, List.map_map]
        rfl
      walk_at "cm"
  · obtain ⟨u0, u4, u5, u10, u13, u14, u15, u16, u17, u18, u19, u20, u21, u22, u23, u24, rfl, rfl⟩ := hI
    exact nx _ _ _ ⟨_, _, _, _, _, _, _, _, _, _, _, _, _, _, _, _, _, rfl⟩ st1 fs1
end
end K05

open PySem PySem.Spec PyProof.Rows L2 Pr Dn LamX

namespace K05
section
variable {P : Program} {w : World} {K : PySem.W.Frag} {mg : Str → Option Value} {base : Heap} {f : Addr} {cdv : Value} {A0 : Around} {outer : List Env} {s0 : Shared} {HE : Hp} {E : XK} {e : DX}
theorem bl_s7 (T : Tx K mg) (V : Env5 P w K mg base) (hr : Room 39 (A0.deeper (envOfC "law" (defScope s_law) s0.heap.objs.size f cdv))) :
    ∃ t, PSs (lcx P w K mg base f cdv A0 outer s0 HE E) bd_s7 (tDS K E e t) ∧ ∀ (D : DEnds) (δ : DS) (S : Store) (d na a1 a3 a4 a5 p : Addr) (rows : List (Str × Str)) (ps : List (Addr × Pc)) (w : Nat) (fa da : Addr) (LA : List (Addr × Addr)) (u10 u15 : Option Dt), 1 ≤ w → SlP δ na d p ps w (some (.ref fa)) (some (.ref da)) u10 u15 → Pst K S d na a1 a3 a4 a5 p rows ps → ps.map (·.2) = rows.map pcOf → Fst K S a1 fa da rows w LA → EndS K D na a1 a3 a4 a5 → t D δ S := by
  obtain ⟨ta, p_al, h_al⟩ := bl_al (f := f) (cdv := cdv) (A0 := A0) (outer := outer) (s0 := s0) (HE := HE) (E := E) (e := e) T V hr
  obtain ⟨t8, p_s8, h_s8⟩ := bl_s8 (f := f) (cdv := cdv) (A0 := A0) (outer := outer) (s0 := s0) (HE := HE) (E := E) (e := e) T V hr
  refine ⟨_, (dss_cons (ds_for poX rfl (di_lst rfl (de_lst (da_cons de_str (da_cons de_str da_nil)))) (dg_name (i := 11) sc_law.nd rfl (Or.inl rfl)) p_al)
  p_s8), fun D δ S d na a1 a3 a4 a5 p rows ps w fa da LA u10 u15 hw ⟨u0, u4, u5, u11, u12, u13, u14, u16, u17, u18, u19, u20, u21, u22, u23, u24, hδ⟩ st hps fs nx => ?_⟩
  subst hδ
  walk_at "go"
  refine h_al _ _ _ d na a1 a3 a4 a5 p rows ps w fa da LA "center" (.inl rfl) hw ⟨_, _, _, _, _, _, _, _, _, _, _, _, _, _, _, _, _, rfl⟩ st hps fs (fun δ1 S1 u ⟨u0, u4, u5, u10, u12, u13, u14, u15, u16, u17, u18, u19, u20, u21, u22, u23, u24, hδ⟩ st1 fs1 => ?_)
  subst hδ
  walk_at "go"
  refine h_al _ _ _ d na a1 a3 a4 a5 p rows ps w fa da LA "right" (.inr rfl) hw ⟨_, _, _, _, _, _, _, _, _, _, _, _, _, _, _, _, _, rfl⟩ st1 hps fs1 (fun δ2 S2 u ⟨u0, u4, u5, u10, u12, u13, u14, u15, u16, u17, u18, u19, u20, u21, u22, u23, u24, hδ⟩ st2 fs2 => ?_)
  subst hδ
  walk_at "go"
  exact h_s8 _ _ _ d na a1 a3 a4 a5 p rows ps w _ _ _ _ ⟨_, _, _, _, _, _, _, _, _, _, _, _, _, _, _, _, rfl⟩ st2 hps nx
end
end K05

open PySem PySem.Spec PyProof.Rows L2 Pr Dn LamX

namespace K05
section
variable {P : Program} {w : World} {K : PySem.W.Frag} {mg : Str → Option Value} {base : Heap} {f : Addr} {cdv : Value} {A0 : Around} {outer : List Env} {s0 : Shared} {HE : Hp} {E : XK} {e : DX}
theorem bl_s5 (T : Tx K mg) (V : Env5 P w K mg base) (hr : Room 39 (A0.deeper (envOfC "law" (defScope s_law) s0.heap.objs.size f cdv))) :
    ∃ t, PSs (lcx P w K mg base f cdv A0 outer s0 HE E) bd_s5 (tDS K E e t) ∧ ∀ (D : DEnds) (δ : DS) (S : Store) (d na a1 a3 a4 a5 p : Addr) (rows : List (Str × Str)) (ps : List (Addr × Pc)) (w : Nat) (fa da : Addr) (LA : List (Addr × Addr)) (u10 u15 : Option Dt), 1 ≤ w → SlP δ na d p ps w (some (.ref fa)) (some (.ref da)) u10 u15 → Pst K S d na a1 a3 a4 a5 p rows ps → ps.map (·.2) = rows.map pcOf → Fst K S a1 fa da rows w LA → EndS K D na a1 a3 a4 a5 → t D δ S := by
  obtain ⟨t7, p_s7, h_s7⟩ := bl_s7 (f := f) (cdv := cdv) (A0 := A0) (outer := outer) (s0 := s0) (HE := HE) (E := E) (e := e) T V hr
  refine ⟨_, (dss_cons (ds_setLc (i := 10) (own := [("line", 13)]) rfl sc_law.nd rfl rfl (sw_true rfl rfl rfl (by decide +kernel)) (di_lst rfl (dv (pv 8))) (blkOk_by (own := [("line", 13)]) (N := sl_law) (sc := defScope s_law) (by decide +kernel)) (fun _ _ _ _ _ => (gw_name (i := 13) sc_law.nd rfl (Or.inl rfl) (by decide))) (fun _ _ _ _ _ => ts_nil) (fun _ _ _ _ _ => (de_bm rfl is_tx PySem.F.plainAttrs_str PySem.F.slot_str_join PySem.F.type_str_join (md_join rfl) de_str (da_cons (de_lc (own := [("place", 20), ("text", 15), ("one", 21), ("wide", 22)]) rfl sc_law.nd (di_lst rfl (de_fld rfl (fd_Line_runs T) (dv (pv 13)))) (blkOk_by (own := [("place", 20), ("text", 15), ("one", 21), ("wide", 22)]) (by kernel_rfl)) (fun _ _ _ _ _ => (gw_tup (n := 4) rfl rfl (gws_cons (gw_name (i := 20) sc_law.nd rfl (Or.inl rfl) (by decide)) (gws_cons (gw_name (i := 15) sc_law.nd rfl (Or.inl rfl) (by decide)) (gws_cons (gw_name (i := 21) sc_law.nd rfl (Or.inl rfl) (by decide)) (gws_cons (gw_name (i := 22) sc_law.nd rfl (Or.inl rfl) (by decide)) gws_nil)))))) (fun _ _ _ _ _ => ts_nil) (fun _ _ _ _ _ => (de_if (dt_cmp (od_ne rfl (hU_of hr)) (dv (pv 15)) de_str) (dv (pv 15)) (de_op od_mul de_str (dv (pv 22)))))) da_nil))))
  (dss_cons (ds_if (PW.pt (dt_or (dt_cmp (od_neV rfl (hU_of hr)) (dv (pv 10)) (dv (pv 9))) (pw_or1 (dt_cmp (od_neV rfl (hU_of hr)) (de_lc (own := [("line", 13)]) rfl sc_law.nd (di_lst rfl (dv (pv 8))) (blkOk_by (own := [("line", 13)]) (N := sl_law) (sc := defScope s_law) (by decide +kernel)) (fun _ _ _ _ _ => (gw_name (i := 13) sc_law.nd rfl (Or.inl rfl) (by decide))) (fun _ _ _ _ _ => ts_nil) (fun _ _ _ _ _ => (de_fld rfl (fd_Line_width T) (dv (pv 13))))) (de_lc (own := [("line", 13)]) rfl sc_law.nd (di_lst rfl (dv (pv 9))) (blkOk_by (own := [("line", 13)]) (N := sl_law) (sc := defScope s_law) (by decide +kernel)) (fun _ _ _ _ _ => (gw_name (i := 13) sc_law.nd rfl (Or.inl rfl) (by decide))) (fun _ _ _ _ _ => ts_nil) (fun _ _ _ _ _ => (de_callB (cd_len rfl) (by rfl) T.b_len (by decide +kernel) (da_cons (dv (pv 13)) da_nil)))))))) (dss_one (ds_ret de_bl)) dss_nil)
  p_s7)), fun D δ S d na a1 a3 a4 a5 p rows ps w fa da LA u10 u15 hw ⟨u0, u4, u5, u11, u12, u13, u14, u16, u17, u18, u19, u20, u21, u22, u23, u24, hδ⟩ st hps fs nx => ?_⟩
  subst hδ
  have hf := fs.hf
  have hd := fs.hd
  obtain ⟨S0, hl⟩ := fs.hl
  obtain ⟨w1, w2, w3⟩ := lines_law hw fun y hy => (st.hr y hy).1
  obtain ⟨z1, z2⟩ := pc_sz (lim := w) st.hr st.nr
  have eL : LA.length = _ := hl.len
  rw [List.length_map] at eL
  have ev := hl.vals (fun ln => Dt.str (shL ln))
  have ew := hl.vals (fun ln => Dt.int (ln.w : Nat))
  rw [List.map_map, show (fun ln => Dt.str (shL ln)) ∘ shiftLn "left" w = Dt.str ∘ shL from funext fun ln => congrArg Dt.str shL_shift, ← List.map_map, w1] at ev
  have er := hl.refs
  rw [er] at hf
  have lz : (LA.zip ((linesF (brk w (rows.map pcOf))).map (shiftLn "left" w))).length ≤ 90000 := by
    rw [List.length_zip]
    exact Nat.le_trans (Nat.min_le_left _ _) (by omega)
  have lq : ∀ x ∈ LA.zip ((linesF (brk w (rows.map pcOf))).map (shiftLn "left" w)), x.2.runs.length ≤ 90000 ∧ ∀ r ∈ x.2.runs, ROk r := fun x hx => by
    obtain ⟨ln, hln, e⟩ := List.mem_map.mp (List.of_mem_zip (a := x.1) (b := x.2) hx).2
    rw [← e]
    unfold shiftLn
    refine ⟨by rw [List.length_map]; exact z2 ln hln, fun r hr => ?_⟩
    obtain ⟨r', hr', rfl⟩ := List.mem_map.mp hr
    exact w3 ln hln r' hr'
  walk_at "go"
  refine ⟨by rw [List.length_map]; exact size6 (by omega), lc_go ?_⟩
  refine lc_map (fun x : (Addr × Addr) × Ln => Dt.ref x.1.1) (fun x : (Addr × Addr) × Ln => Dt.str (shL x.2)) hf _ (fun x hx kY kN hY => ?_) ?_
  · obtain ⟨g1, g2⟩ := hl.zip x hx
    obtain ⟨q1, q2⟩ := lq x hx
    walk_at "go"
    refine ⟨by rw [List.length_map]; exact size6 (by omega), lc_go ?_⟩
    refine lc_map (runD a1) (fun r : Run => Dt.str (shR r)) g2 _ (fun r hr kY' kN' hY' => ?_) ?_
    · have hw2 := (q2 r hr).w
      have ht := (q2 r hr).t
      walk_at "go"
      by_cases h0 : r.tx = ("" : Str)
      · rw [decide_eq_true h0]
        rw [show shR r = repS "#" r.w from if_neg (fun k => k h0)] at hY'
        walk_at "go"
        rw [Int.toNat_natCast]
        exact ⟨⟨by omega, by omega, Nat.le_trans (show 1 * r.w ≤ 60 by omega) (Nat.le_of_ble_eq_true rfl)⟩, hY'⟩
      · rw [decide_eq_false h0]
        rw [show shR r = r.tx from if_pos h0] at hY'
        walk_at "go"
        exact hY'
    · walk_at "go"
      refine join_go (ys := x.2.runs.map shR) (k := 60) (.inr (by rw [List.map_map]; rfl)) SOk.empty (fun y hy => ?_) (by rw [List.length_map]; show _ * (60 + 0) ≤ _; omega) ?_
      · obtain ⟨r, hr, rfl⟩ := List.mem_map.mp hy
        have h1 := q2 r hr
        unfold shR
        split
        · exact ⟨h1.t.s, h1.t.l⟩
        · have e1 : (repS "#" r.w).length = r.w * 1 := repS_len _ _
          have hw2 := h1.w
          exact ⟨sok_rep (sok_of (by decide +kernel)) (Nat.le_trans (show 1 * r.w ≤ 60 by omega) (Nat.le_of_ble_eq_true rfl)), by omega⟩
      · walk_at "go"
        exact hY
  · rw [ev]
    walk_at "go"
    refine (strs_dat _).ne (by decide) ?_
    walk_at "go"
    refine ⟨by rw [List.length_map]; exact size6 (by omega), lc_go ?_⟩
    refine lc_map (fun x : (Addr × Addr) × Ln => Dt.ref x.1.1) (fun x : (Addr × Addr) × Ln => Dt.int (x.2.w : Nat)) hf _ (fun x hx kY kN hY => ?_) ?_
    · obtain ⟨g1, g2⟩ := hl.zip x hx
      walk_at "go"
      exact hY
    · have e3 : (LA.zip ((linesF (brk w (rows.map pcOf))).map (shiftLn "left" w))).map (fun x => Dt.int (x.2.w : Nat)) = ((lawF w rows).map fun z => (z.length : Int)).map Dt.int := by
        rw [ew, ← w1, List.map_map, List.map_map, List.map_map]
        refine List.map_congr_left fun ln h => ?_
        show Dt.int ((shiftLn "left" w ln).w : Nat) = Dt.int ((shL ln).length : Nat)
        rw [← w2 ln h]
        rfl
      walk_at "go"
      refine ⟨by rw [List.length_map]; exact size6 (by have := law_sz st.hr st.nr hw; omega), lc_go ?_⟩
      refine lc_map Dt.str (fun z => Dt.int (z.length : Nat)) hd _ (fun x hx kY kN hY => ?_) ?_
      · walk_at "go"
        exact hY
      · rw [e3, show (lawF w rows).map (fun z => Dt.int (z.length : Nat)) = ((lawF w rows).map fun z => (z.length : Int)).map Dt.int from by rw [List.map_map]; rfl]
        walk_at "go"
        refine (ints_dat _).ne (by decide) ?_
        walk_at "go"
        exact h_s7 _ _ _ d na a1 a3 a4 a5 p rows ps w fa da LA _ _ hw ⟨_, _, _, _, _, _, _, _, _, _, _, _, _, _, _, _, rfl⟩ st hps fs nx
end
end K05

open PySem PySem.Spec PyProof.Rows L2 Pr Dn LamX

namespace K05
section
variable {P : Program} {w : World} {K : PySem.W.Frag} {mg : Str → Option Value} {base : Heap} {f : Addr} {cdv : Value} {A0 : Around} {outer : List Env} {s0 : Shared} {HE : Hp} {E : XK} {e : DX}
theorem bl_s2 (T : Tx K mg) (V : Env5 P w K mg base) (hr : Room 39 (A0.deeper (envOfC "law" (defScope s_law) s0.heap.objs.size f cdv))) :
    ∃ t, PSs (lcx P w K mg base f cdv A0 outer s0 HE E) bd_s2 (tDS K E e t) ∧ ∀ (D : DEnds) (δ : DS) (S : Store) (d na a1 a3 a4 a5 p : Addr) (rows : List (Str × Str)), SlA δ na d p → Pst K S d na a1 a3 a4 a5 p rows [] → EndS K D na a1 a3 a4 a5 → t D δ S := by
  obtain ⟨t5, p_s5, h_s5⟩ := bl_s5 (f := f) (cdv := cdv) (A0 := A0) (outer := outer) (s0 := s0) (HE := HE) (E := E) (e := e) T V hr
  have c__law_roll := V.c__law_roll
  have c__law_lines := V.c__law_lines
  have c_break_lines := V.c_break_lines
  have k_Piece := V.k_Piece
  refine ⟨_, (dss_cons (ds_setLc (i := 6) (own := [("kind", 19), ("text", 15)]) rfl sc_law.nd rfl rfl (sw_true rfl rfl rfl (by decide +kernel)) (di_lst rfl (dv (pv 3))) (blkOk_by (own := [("kind", 19), ("text", 15)]) (N := sl_law) (sc := defScope s_law) (by decide +kernel)) (fun _ _ _ _ _ => (gw_tup (n := 2) rfl rfl (gws_cons (gw_name (i := 19) sc_law.nd rfl (Or.inl rfl) (by decide)) (gws_cons (gw_name (i := 15) sc_law.nd rfl (Or.inl rfl) (by decide)) gws_nil)))) (fun _ _ _ _ _ => ts_nil) (fun _ _ _ _ _ => (de_make (nm := nm_Piece) rfl k_Piece dfl_nil hr (by decide) rfl passL (da_cons (dv (pv 19)) (da_cons (de_if (dt_cmp (od_eq rfl (hU_of hr)) (dv (pv 19)) de_str) de_str (dv (pv 15))) (da_cons (de_ixC (n := 0) rfl (dv (pv 1))) (da_cons (de_callB (cd_len rfl) (by rfl) T.b_len (by decide +kernel) (da_cons (dv (pv 15)) da_nil)) da_nil)))))))
  (dss_cons (ds_set (i := 7) sc_law.nd rfl (Or.inl rfl) (de_op (od_add rfl) de_int (de_call rfl c__law_roll dfl_nil hr (by decide) rfl paX (da_cons (dv (pv 2)) (da_cons de_int da_nil)))))
  (dss_cons (ds_par (i := 8) (j := 9) (by rfl) sc_law.nd rfl rfl (by decide) rfl rfl (da_cons (de_call rfl c_break_lines dfl_nil hr (by decide) rfl paX (da_cons (dv (pv 6)) (da_cons (dv (pv 7)) (da_cons de_str da_nil)))) (da_cons (de_call rfl c__law_lines dfl_nil hr (by decide) rfl paX (da_cons (dv (pv 3)) (da_cons (dv (pv 7)) da_nil))) da_nil)) (by rfl))
  p_s5))), fun D δ S d na a1 a3 a4 a5 p rows ⟨u0, u4, u5, u6, u7, u8, u9, u10, u11, u12, u13, u14, u15, u16, u17, u18, u19, u20, u21, u22, u23, u24, hδ⟩ st nx => ?_⟩
  subst hδ
  have hp := st.hp
  have nr := st.nr
  walk_at "go"
  refine lc_at rowD rows (fun i acc S => ∃ ps : List (Addr × Pc), acc = ps.map (fun y => Dt.ref y.1) ∧ ps.map (·.2) = (rows.take i).map pcOf ∧ Pst K S d na a1 a3 a4 a5 p rows ps) (fun i acc S' hI => ?_) (fun i x acc S' hx hI kY kN hY hN => ?_) (fun acc S' hI => ?_) ⟨[], rfl, rfl, st⟩
  · obtain ⟨ps, _, _, st'⟩ := hI
    exact st'.hp
  · obtain ⟨ps, rfl, ep, st'⟩ := hI
    have hl := st'.tr.hl
    have fin : ∀ m, S' m = none → ∀ tx, (if x.1 = "thing" then ("" : Str) else x.2) = tx → kY (.ref m) (sput S' m (pcC K x.1 tx a1 x.2.length)) := fun m hm tx et => by
      subst et
      refine hY _ _ ⟨ps ++ [(m, pcOf x)], by rw [List.map_append]; rfl, ?_, st'.piece hm (pcOf x)⟩
      rw [List.map_append, ep, List.take_add_one, hx, List.map_append]
      rfl
    walk_at "go"
    by_cases hk : x.1 = "thing"
    · rw [decide_eq_true hk]
      walk_at "go"
      intro m hm
      refine ⟨m, _, _, a1, x.2.length, rfl, sput_same, rfl, ?_⟩
      rw [sput_sput]
      exact fin m hm _ (if_pos hk)
    · rw [decide_eq_false hk]
      walk_at "go"
      intro m hm
      refine ⟨m, _, _, a1, x.2.length, rfl, sput_same, rfl, ?_⟩
      rw [sput_sput]
      exact fin m hm _ (if_neg hk)
  · obtain ⟨ps, rfl, ep, st'⟩ := hI
    rw [List.take_length] at ep
    walk_at "go"
    refine st'.roll (by decide) fun r S2 r0 r1 st2 => ?_
    obtain ⟨n, rfl⟩ := Int.eq_ofNat_of_zero_le r0
    obtain ⟨tx, pl⟩ := st2.txt ep
    walk_at "go"
    rw [show (1 : Int) + (n : Nat) = ((1 + n : Nat) : Int) by omega]
    refine ⟨_, ps, a1, 1 + n, "left", 60, rfl, .inl rfl, fun y hy => ⟨st2.hpc y hy, by have := tx y hy; omega⟩, by omega, .inl rfl, fun S3 m LA hl fm hm => ?_⟩
    rw [ep] at hl
    have st3 := st2.le hl.le
    have hp3 := st3.hp
    walk_at "go"
    have hr11 : ∀ y ∈ rows, y.2.length ≤ 11 := fun y hy => (st.hr y hy).2
    refine ⟨p, rows, 1 + n, 60, rfl, hp3, by omega, fun y hy => by have := hr11 y hy; omega, by omega, fun S4 q le4 fq hq => ?_⟩
    walk_at "go"
    exact h_s5 _ _ _ d na a1 a3 a4 a5 p rows ps (1 + n) m q LA _ _ (by omega) ⟨_, _, _, _, _, _, _, _, _, _, _, _, _, _, _, _, rfl⟩ (st3.le le4) ep ⟨le4 _ _ hm, ⟨_, hl.le' le4⟩, hq⟩ nx
end
end K05

open PySem PySem.Spec PyProof.Rows L2 Pr Dn LamX

namespace K05
def SlD (δ : DS) (na d : Addr) : Prop := ∃ u0 u3 u4 u5 u6 u7 u8 u9 u10 u11 u12 u13 u14 u15 u16 u17 u18 u19 u20 u21 u22 u23 u24, δ = u0 :: some (.ref na) :: some (.ref d) :: u3 :: u4 :: u5 :: u6 :: u7 :: u8 :: [u9, u10, u11, u12, u13, u14, u15, u16, u17, u18, u19, u20, u21, u22, u23, u24]
section
variable {P : Program} {w : World} {K : PySem.W.Frag} {mg : Str → Option Value} {base : Heap} {f : Addr} {cdv : Value} {A0 : Around} {outer : List Env} {s0 : Shared} {HE : Hp} {E : XK} {e : DX}
theorem bl_s0 (T : Tx K mg) (V : Env5 P w K mg base) (hr : Room 39 (A0.deeper (envOfC "law" (defScope s_law) s0.heap.objs.size f cdv))) :
    ∃ t, PSs (lcx P w K mg base f cdv A0 outer s0 HE E) bd_s0 (tDS K E e t) ∧ ∀ (D : DEnds) (δ : DS) (S : Store) (d na a1 a3 a4 a5 : Addr), SlD δ na d → Ten S d → TrAt K S na a1 a3 a4 a5 → EndS K D na a1 a3 a4 a5 → t D δ S := by
  obtain ⟨t2, p_s2, h_s2⟩ := bl_s2 (f := f) (cdv := cdv) (A0 := A0) (outer := outer) (s0 := s0) (HE := HE) (E := E) (e := e) T V hr
  obtain ⟨tb, p_rb, h_rb⟩ := bl_rb (f := f) (cdv := cdv) (A0 := A0) (outer := outer) (s0 := s0) (HE := HE) (E := E) (e := e) T V hr
  have c__law_roll := V.c__law_roll
  refine ⟨_, (dss_cons (ds_set (i := 3) sc_law.nd rfl (Or.inl rfl) (de_lstO da_nil))
  (dss_cons (ds_for poX rfl (di_range1 (by rfl) T.b_range (da_cons (de_call rfl c__law_roll dfl_nil hr (by decide) rfl paX (da_cons (dv (pv 2)) (da_cons de_int da_nil))) da_nil)) (dg_name (i := 4) sc_law.nd rfl (Or.inl rfl)) p_rb)
  p_s2)), fun D δ S d na a1 a3 a4 a5 ⟨u0, u3, u4, u5, u6, u7, u8, u9, u10, u11, u12, u13, u14, u15, u16, u17, u18, u19, u20, u21, u22, u23, u24, hδ⟩ di tr nx => ?_⟩
  subst hδ
  obtain ⟨x0, n0, k0, hd⟩ := di
  walk_at "go"
  intro p hp
  have le := Le.refl.put hp (c := Cell.lst [])
  have st0 : Pst K (sput S p (.lst [])) d na a1 a3 a4 a5 p [] [] := ⟨⟨x0, n0, k0, le _ _ hd⟩, tr.of fun x c hx _ => le x c hx, sput_same, (fun e => by rw [e, hd] at hp; cases hp), nofun, Nat.zero_le _, nofun⟩
  walk_at "go"
  refine st0.roll (by decide) fun r S1 r0 r1 st1 => ?_
  obtain ⟨n, rfl⟩ := Int.eq_ofNat_of_zero_le r0
  walk_at "go"
  refine forGo_rng 0 n (fun i δ S => ∃ rows, rows.length = i ∧ SlA δ na d p ∧ Pst K S d na a1 a3 a4 a5 p rows []) (fun i δ S' hi hI kk => ?_) (fun δ S' hI => ?_) ⟨[], rfl, ⟨_, _, _, _, _, _, _, _, _, _, _, _, _, _, _, _, _, _, _, _, _, _, rfl⟩, st1⟩
  · obtain ⟨rows, rl, ⟨u0, u4, u5, u6, u7, u8, u9, u10, u11, u12, u13, u14, u15, u16, u17, u18, u19, u20, u21, u22, u23, u24, rfl⟩, st2⟩ := hI
    intro kn
    walk_at "go"
    exact h_rb _ _ _ d na a1 a3 a4 a5 p rows ⟨_, _, _, _, _, _, _, _, _, _, _, _, _, _, _, _, _, _, _, _, _, _, rfl⟩ st2 (by omega) fun δ1 S2 y sl st3 => kn _ _ ⟨rows ++ [y], by rw [List.length_append, rl]; rfl, sl, st3⟩
  · obtain ⟨rows, rl, sl, st2⟩ := hI
    exact h_s2 _ _ _ d na a1 a3 a4 a5 p rows sl st2 nx
end
end K05

open PySem PySem.Spec PyProof.Rows L2 Pr Dn LamX NdefX

namespace K05
structure TbS (K : PySem.W.Frag) (S : Store) : Prop where
  h : S (He.cT K ("Document", some "place_before")).2 = some .gtb
def cLaw (K : PySem.W.Frag) : DSp := fun ds S q _ => ∃ ns : List Int, ds = [.scr ns] ∧ ns.length ≤ 10000 ∧ TbS K S ∧ ∀ S', q (.bl true) S'
def z0 : Str := "<b>x</b><input type=\"checkbox\" checked><input value=\"v\"><input type=\"hidden\">"
def m0 : PM := ⟨[⟨some "html", "", [], "", false, none, [1, 3, 4, 5]⟩, ⟨some "b", "", [], "", false, some 0, [2]⟩, ⟨none, "x", [], "", false, some 1, []⟩, ⟨some "input", "", [("type", "checkbox"), ("checked", "")], "", true, some 0, []⟩,
  ⟨some "input", "", [("value", "v")], "v", false, some 0, []⟩, ⟨some "input", "", [("type", "hidden")], "", false, some 0, []⟩], [0]⟩
theorem parse0 : parseF z0 = some m0 := by decide +kernel
section
variable {P : Program} {w : World} {K : PySem.W.Frag} {mg : Str → Option Value} {base : Heap}
theorem tr_of {S0 S : Store} {tb sc dc dn op : Addr} {A : List Tri} {p : Nat} (b : Bld K S0 S tb sc dc dn op A z0 p m0) : ∃ a0 t0 c0 a1 a3 a4 a5 v, S dc = some (docC K dn (6 : Nat) [.ref a0, .int v]) ∧ S a0 = some (nodeC K (0 : Nat) (.str "html") (.str "") t0 c0 .non (.str "") (.bl false)) ∧ TrAt K S c0 a1 a3 a4 a5 := by
  obtain ⟨t0, c0, _, h0, _, hc0⟩ := b.at (i := 0) (by decide)
  obtain ⟨t1, c1, _, h1, _, _⟩ := b.at (i := 1) (by decide)
  obtain ⟨t3, c3, _, h3, k3, _⟩ := b.at (i := 3) (by decide)
  obtain ⟨t4, c4, _, h4, k4, _⟩ := b.at (i := 4) (by decide)
  obtain ⟨t5, c5, _, h5, k5, _⟩ := b.at (i := 5) (by decide)
  obtain ⟨v, hd⟩ := b.hdc
  rw [b.len] at hd
  exact ⟨ad A 0, t0, c0, ad A 1, ad A 3, ad A 4, ad A 5, v, hd, h0, hc0, ⟨_, _, _, _, _, _, _, _, h1⟩, ⟨_, _, _, _, _, _, _, _, _, h3, k3, by decide +kernel, by decide +kernel⟩, ⟨_, _, _, _, _, _, _, _, _, h4, k4, by decide +kernel, by decide +kernel⟩, ⟨_, _, _, _, _, _, _, _, _, h5, k5, by decide +kernel, by decide +kernel⟩⟩
theorem ok_law (T : Tx K mg) (V : Env5 P w K mg base) (c_parse_markup : CalX P w K mg base 10 "parse_markup" (spD K (cParse K)) []) (c__law_rounds : CalX P w K mg base 2 "_law_rounds" (spD K cRounds) [])
    {f : Addr} {fd : FuncData} (F : FunD K "law" "law" (defArgs s_law) (defBody s_law) (defScope s_law) [] [] f fd) : FnOk P w K mg base (L2.CX P w) 40 f fd ["script"] (spD K (cLaw K)) := by
  refine dfn 25 F sc_law (fun ds S q e h => ?_) rfl (fun cdv A outer s H E e hr => ?_)
  · obtain ⟨ns, rfl, _⟩ := h
    rfl
  · obtain ⟨t1, p_s0, h_s0⟩ := bl_s0 (f := f) (cdv := cdv) (A0 := A) (outer := outer) (s0 := s) (HE := H) (E := E) (e := e) T V hr
    obtain ⟨t2, p_tail, h_tail⟩ := bl_tail (f := f) (cdv := cdv) (A0 := A) (outer := outer) (s0 := s) (HE := H) (E := E) (e := e) T V hr
    refine ⟨_, (dss_cons (ds_set (i := 1) sc_law.nd rfl (Or.inr rfl) (de_fld rfl (fd_Node_children T) (de_fld rfl (fd_Document_root T) (de_call rfl c_parse_markup dfl_nil hr (by decide) rfl paX (da_cons de_str da_nil)))))
  (dss_cons (ds_for poX rfl (di_lst rfl (de_call rfl c__law_rounds dfl_nil hr (by decide) rfl paX (da_cons (dv (pv 0)) (da_cons de_int da_nil)))) (dg_name (i := 2) sc_law.nd rfl (Or.inr rfl)) p_s0)
  p_tail)), fun ds S q h => ?_⟩
    obtain ⟨ns, rfl, nl, tx, kk⟩ := h
    walk_at "go"
    refine ⟨z0, rfl, by decide +kernel, tx.h, fun hn => ?_, fun m' hm S1 tb sc dc dn op A p b wf => ?_⟩
    · rw [parse0] at hn; cases hn
    · rw [parse0] at hm
      injection hm with hm
      subst hm
      obtain ⟨a0, t0, c0, a1, a3, a4, a5, v, q1, q2, q3⟩ := tr_of b
      walk_at "go"
      refine ⟨ns, rfl, nl, fun d x n k np => ?_⟩
      walk_at "go"
      refine h_s0 _ _ _ d c0 a1 a3 a4 a5 ⟨_, _, _, _, _, _, _, _, _, _, _, _, _, _, _, _, _, _, _, _, _, _, _, rfl⟩ ⟨x, n, k, sput_same⟩ (q3.of fun b c hb _ => Le.refl.put np b c hb) fun δ' S' sl' tr' => ?_
      exact ⟨trivial, h_tail _ δ' S' c0 a1 a3 a4 a5 sl' tr' kk⟩
end
end K05

open PySem PySem.Spec PyProof.Rows L2 Pr Dn LamX NdefX

namespace K05
section
variable {K : PySem.W.Frag} {f : Addr} {fd : FuncData}
theorem bnd_Node (F : FunD K "__init__" "Node.__init__" (defArgs s_Node_init) (defBody s_Node_init) (defScope s_Node_init) [.str ""] [] f fd) : ∃ ds, Vals [] ds ∧ Binds K fd ["self", "number", "tag", "text"] ds := F.binds1 4 1 (by simp) rfl fun T kV doc pm an cdv ct us its hu hi => (match us, its, hu, hi with | [_, _, _, _], [_], _, _ => ⟨_, rfl, rfl⟩)
theorem bnd_make (F : FunD K "make" "Document.make" (defArgs s_Document_make) (defBody s_Document_make) (defScope s_Document_make) [.str ""] [] f fd) : ∃ ds, Vals [] ds ∧ Binds K fd ["self", "tag", "text"] ds := F.binds1 3 1 (by simp) rfl fun T kV doc pm an cdv ct us its hu hi => (match us, its, hu, hi with | [_, _, _], [_], _, _ => ⟨_, rfl, rfl⟩)
theorem bnd_make1 (F : FunD K "make" "Document.make" (defArgs s_Document_make) (defBody s_Document_make) (defScope s_Document_make) [.str ""] [] f fd) : ∃ ds, Vals [.str ""] ds ∧ Binds K fd ["self", "tag", "text"] ds := F.binds1 2 0 (by simp) rfl fun T kV doc pm an cdv ct us its hu hi => (match us, its, hu, hi with | [_, _], [_], _, _ => ⟨_, rfl, rfl⟩)
theorem bnd_here (F : FunD K "here" "Scanner.here" (defArgs s_Scanner_here) (defBody s_Scanner_here) (defScope s_Scanner_here) [.int 1] [] f fd) : ∃ ds, Vals [] ds ∧ Binds K fd ["self", "many"] ds := F.binds1 2 1 (by simp) rfl fun T kV doc pm an cdv ct us its hu hi => (match us, its, hu, hi with | [_, _], [_], _, _ => ⟨_, rfl, rfl⟩)
theorem bnd_here1 (F : FunD K "here" "Scanner.here" (defArgs s_Scanner_here) (defBody s_Scanner_here) (defScope s_Scanner_here) [.int 1] [] f fd) : ∃ ds, Vals [.int 1] ds ∧ Binds K fd ["self", "many"] ds := F.binds1 1 0 (by simp) rfl fun T kV doc pm an cdv ct us its hu hi => (match us, its, hu, hi with | [_], [_], _, _ => ⟨_, rfl, rfl⟩)
end
abbrev PL_ : Program := PySem.Challenge.rw_pagestack_k05_lines_that_are_broken.prog
theorem law_at_ (w : World) (mg : Str → Option Value) (fa_ : Addr) (h : Heap) {K : PySem.W.Frag} (KX : K.In h) (G : h.Ns mainGlobals mg) (hfa : mg ("law" : Str) = some (.ref fa_)) (c : He.SaysX fa fn ts tf exB w h K) :
    LamX.LawAtS PySem.Challenge.rw_pagestack_k05_lines_that_are_broken w K (L2.CX PL_ w) 40 63 "script" mg fa_ h := by
  have T : Tx K mg := tx_of KX G c.t.d c.more
  have efa := hfa.symm.trans T.g_law
  cases efa
  have kd_ENTITIES : KdX K w (He.ga K "ENTITIES") entD := by
    have m := c.more
    unfold exB at m
    simp only [Bool.and_eq_true] at m
    exact kdx_of (tabW c.t 0) m.2.2
  have hnd : [(He.cT K ("Document", some "place_before")).2].Nodup := List.nodup_cons.mpr ⟨nofun, List.nodup_nil⟩
  obtain ⟨fd_wall, F_wall⟩ := c.t.d.def_ 0 (d := d_wall) rfl
  obtain ⟨fd_Line_init, F_Line_init⟩ := c.t.d.def_ 1 (d := d_Line_init) rfl
  obtain ⟨fd_Line_add, F_Line_add⟩ := c.t.d.def_ 2 (d := d_Line_add) rfl
  obtain ⟨fd_Line_shift, F_Line_shift⟩ := c.t.d.def_ 3 (d := d_Line_shift) rfl
  obtain ⟨fd_Breaker_init, F_Breaker_init⟩ := c.t.d.def_ 4 (d := d_Breaker_init) rfl
  obtain ⟨fd_Breaker_last, F_Breaker_last⟩ := c.t.d.def_ 5 (d := d_Breaker_last) rfl
  obtain ⟨fd_Breaker_put, F_Breaker_put⟩ := c.t.d.def_ 6 (d := d_Breaker_put) rfl
  obtain ⟨fd_Breaker_put_word, F_Breaker_put_word⟩ := c.t.d.def_ 7 (d := d_Breaker_put_word) rfl
  obtain ⟨fd_break_lines, F_break_lines⟩ := c.t.d.def_ 8 (d := d_break_lines) rfl
  obtain ⟨fd_widest, F_widest⟩ := c.t.d.def_ 9 (d := d_widest) rfl
  obtain ⟨fd_Piece_init, F_Piece_init⟩ := c.t.d.def_ 10 (d := d_Piece_init) rfl
  obtain ⟨fd_Piece_shown, F_Piece_shown⟩ := c.t.d.def_ 11 (d := d_Piece_shown) rfl
  obtain ⟨fd_transformed, F_transformed⟩ := c.t.d.def_ 12 (d := d_transformed) rfl
  obtain ⟨fd_shown_value, F_shown_value⟩ := c.t.d.def_ 13 (d := d_shown_value) rfl
  obtain ⟨fd_kept_pieces, F_kept_pieces⟩ := c.t.d.def_ 14 (d := d_kept_pieces) rfl
  obtain ⟨fd_Node_init, F_Node_init⟩ := c.t.d.def_ 15 (d := d_Node_init) rfl
  obtain ⟨fd_Node_is_text, F_Node_is_text⟩ := c.t.d.def_ 16 (d := d_Node_is_text) rfl
  obtain ⟨fd_Node_attribute, F_Node_attribute⟩ := c.t.d.def_ 17 (d := d_Node_attribute) rfl
  obtain ⟨fd_Node_class_words, F_Node_class_words⟩ := c.t.d.def_ 18 (d := d_Node_class_words) rfl
  obtain ⟨fd_Node_element_children, F_Node_element_children⟩ := c.t.d.def_ 19 (d := d_Node_element_children) rfl
  obtain ⟨fd_Node_place_in, F_Node_place_in⟩ := c.t.d.def_ 20 (d := d_Node_place_in) rfl
  obtain ⟨fd_Node_path, F_Node_path⟩ := c.t.d.def_ 21 (d := d_Node_path) rfl
  obtain ⟨fd_Node_levels_below, F_Node_levels_below⟩ := c.t.d.def_ 22 (d := d_Node_levels_below) rfl
  obtain ⟨fd_Node_all_nodes, F_Node_all_nodes⟩ := c.t.d.def_ 23 (d := d_Node_all_nodes) rfl
  obtain ⟨fd_Node_content, F_Node_content⟩ := c.t.d.def_ 24 (d := d_Node_content) rfl
  obtain ⟨fd_Node_shown, F_Node_shown⟩ := c.t.d.def_ 25 (d := d_Node_shown) rfl
  obtain ⟨fd_Document_init, F_Document_init⟩ := c.t.d.def_ 26 (d := d_Document_init) rfl
  obtain ⟨fd_Document_make, F_Document_make⟩ := c.t.d.def_ 27 (d := d_Document_make) rfl
  obtain ⟨fd_Document_node_of, F_Document_node_of⟩ := c.t.d.def_ 28 (d := d_Document_node_of) rfl
  obtain ⟨fd_Document_append, F_Document_append⟩ := c.t.d.def_ 29 (d := d_Document_append) rfl
  obtain ⟨fd_Document_place_before, F_Document_place_before⟩ := c.t.d.def_ 30 (d := d_Document_place_before) rfl
  obtain ⟨fd_Document_remove, F_Document_remove⟩ := c.t.d.def_ 31 (d := d_Document_remove) rfl
  obtain ⟨fd_Document_set_attribute, F_Document_set_attribute⟩ := c.t.d.def_ 32 (d := d_Document_set_attribute) rfl
  obtain ⟨fd_Document_set_text, F_Document_set_text⟩ := c.t.d.def_ 33 (d := d_Document_set_text) rfl
  obtain ⟨fd_Document_by_id, F_Document_by_id⟩ := c.t.d.def_ 34 (d := d_Document_by_id) rfl
  obtain ⟨fd_Scanner_init, F_Scanner_init⟩ := c.t.d.def_ 35 (d := d_Scanner_init) rfl
  obtain ⟨fd_Scanner_here, F_Scanner_here⟩ := c.t.d.def_ 36 (d := d_Scanner_here) rfl
  obtain ⟨fd_Scanner_skip_blanks, F_Scanner_skip_blanks⟩ := c.t.d.def_ 37 (d := d_Scanner_skip_blanks) rfl
  obtain ⟨fd_Scanner_read_name, F_Scanner_read_name⟩ := c.t.d.def_ 38 (d := d_Scanner_read_name) rfl
  obtain ⟨fd_Scanner_up_to, F_Scanner_up_to⟩ := c.t.d.def_ 39 (d := d_Scanner_up_to) rfl
  obtain ⟨fd_with_entities, F_with_entities⟩ := c.t.d.def_ 40 (d := d_with_entities) rfl
  obtain ⟨fd_TreeBuilder_init, F_TreeBuilder_init⟩ := c.t.d.def_ 41 (d := d_TreeBuilder_init) rfl
  obtain ⟨fd_TreeBuilder_build, F_TreeBuilder_build⟩ := c.t.d.def_ 42 (d := d_TreeBuilder_build) rfl
  obtain ⟨fd_TreeBuilder_text_run, F_TreeBuilder_text_run⟩ := c.t.d.def_ 43 (d := d_TreeBuilder_text_run) rfl
  obtain ⟨fd_TreeBuilder_start_tag, F_TreeBuilder_start_tag⟩ := c.t.d.def_ 44 (d := d_TreeBuilder_start_tag) rfl
  obtain ⟨fd_TreeBuilder_close_before, F_TreeBuilder_close_before⟩ := c.t.d.def_ 45 (d := d_TreeBuilder_close_before) rfl
  obtain ⟨fd_TreeBuilder_read_attributes, F_TreeBuilder_read_attributes⟩ := c.t.d.def_ 46 (d := d_TreeBuilder_read_attributes) rfl
  obtain ⟨fd_TreeBuilder_end_tag, F_TreeBuilder_end_tag⟩ := c.t.d.def_ 47 (d := d_TreeBuilder_end_tag) rfl
  obtain ⟨fd_start_state, F_start_state⟩ := c.t.d.def_ 48 (d := d_start_state) rfl
  obtain ⟨fd_parse_markup, F_parse_markup⟩ := c.t.d.def_ 49 (d := d_parse_markup) rfl
  obtain ⟨fd_law_dice, F_law_dice⟩ := c.t.d.def_ 50 (d := d_law_dice) rfl
  obtain ⟨fd_law_roll, F_law_roll⟩ := c.t.d.def_ 51 (d := d_law_roll) rfl
  obtain ⟨fd_law_rounds, F_law_rounds⟩ := c.t.d.def_ 52 (d := d_law_rounds) rfl
  obtain ⟨fd_law_lines, F_law_lines⟩ := c.t.d.def_ 53 (d := d_law_lines) rfl
  obtain ⟨fd_law, F_law⟩ := c.t.d.def_ 54 (d := d_law) rfl
  refine ⟨fd_law, [He.cT K ("Document", some "place_before")], spD K (cLaw K), fun p hp => ?_, fun p hp => ?_, fun p hp => ?_, fun s u => ?_, fun H a ns hl hbits hP hS => ?_, fun base KB GB TB => ?_⟩
  · rw [List.mem_singleton] at hp
    subst hp
    exact c.empty ("Document", some "place_before") List.mem_cons_self
  · rw [List.mem_singleton] at hp
    subst hp
    exact c.out ("Document", some "place_before") List.mem_cons_self
  · rw [List.mem_singleton] at hp
    subst hp
    exact PySem.W.codeHd_of_K KX (c.hd ("Document", some "place_before") List.mem_cons_self)
  · exact FunD.bindsA (ps := ["script"]) F_law (fun _ _ _ _ _ _ us hl => match us, hl with | [_], _ => rfl) s [u] rfl
  · have nd : (([((He.cT K ("Document", some "place_before")).2, .gtb)] : List (Addr × Cell)).map (·.1)).Nodup := by simpa using hnd
    refine law_start (T := [((He.cT K ("Document", some "place_before")).2, .gtb)]) (fun p hp => ?_) hS fun q hq => ⟨ns, rfl, by omega, ⟨tabS_at nd _ List.mem_cons_self⟩, hq⟩
    simp only [List.mem_cons, List.not_mem_nil, or_false] at hp
    rcases hp with rfl
    · exact ⟨hP _ List.mem_cons_self, Or.inr rfl⟩
  · have tb_Document_place_before : ∀ c, fd_Document_place_before.code = .ref c → TabB base mg c (He.cT K ("Document", some "place_before")).2 := by
      obtain ⟨oc, od, dV, kV, doc, pm, an, cdv, ct, osl, efd, lk, _, _, _⟩ := F_Document_place_before.ex
      exact fun c e => tab_at (p := ("Document", some "place_before")) lk (TB _ List.mem_cons_self) e
    have k_Node : MakX PL_ w K mg base 1 "Node" (He.ga K "Node") (spD K (cNode K)) [] := by
      obtain ⟨ds, v, b⟩ := bnd_Node F_Node_init
      exact ⟨⟨_, _, _, ds, T.mk_Node, ok_Node T F_Node_init, T.g_Node, b, v⟩⟩
    have m_Node_is_text : MetX PL_ w K mg base 1 (He.ga K "Node") "is_text" (spD K (cIsText K)) [] := ⟨⟨_, _, _, [], T.cl_Node, T.me_Node_is_text, ok_is_text T F_Node_is_text, (F_Node_is_text.bindsN fun _ _ _ _ _ _ us hl => match us, hl with | [_], _ => rfl), .nil⟩⟩
    have m_Node_path : MetX PL_ w K mg base 1 (He.ga K "Node") "path" (spD K (cPath K)) [] := ⟨⟨_, _, _, [], T.cl_Node, T.me_Node_path, ok_path T F_Node_path, (F_Node_path.bindsN fun _ _ _ _ _ _ us hl => match us, hl with | [_], _ => rfl), .nil⟩⟩
    have m_Node_levels_below : MetX PL_ w K mg base 1 (He.ga K "Node") "levels_below" (spD K (cLevels K)) [] := ⟨⟨_, _, _, [], T.cl_Node, T.me_Node_levels_below, ok_levels T F_Node_levels_below, (F_Node_levels_below.bindsN fun _ _ _ _ _ _ us hl => match us, hl with | [_], _ => rfl), .nil⟩⟩
    have m_Node_place_in : MetX PL_ w K mg base 1 (He.ga K "Node") "place_in" (spD K cNever) [] := ⟨⟨_, _, _, [], T.cl_Node, T.me_Node_place_in, no_place_in  F_Node_place_in, (F_Node_place_in.bindsN fun _ _ _ _ _ _ us hl => match us, hl with | [_], _ => rfl), .nil⟩⟩
    have m_Document_make : MetX PL_ w K mg base 3 (He.ga K "Document") "make" (spD K (cMake K)) [] := by
      obtain ⟨ds, v, b⟩ := bnd_make F_Document_make
      exact ⟨⟨_, _, _, ds, T.cl_Document, T.me_Document_make, ok_make T k_Node F_Document_make, b, v⟩⟩
    have m_Document_make_1 : MetX PL_ w K mg base 3 (He.ga K "Document") "make" (spD K (cMake K)) [.str ""] := by
      obtain ⟨ds, v, b⟩ := bnd_make1 F_Document_make
      exact ⟨⟨_, _, _, ds, T.cl_Document, T.me_Document_make, ok_make T k_Node F_Document_make, b, v⟩⟩
    have k_Document : MakX PL_ w K mg base 4 "Document" (He.ga K "Document") (spD K (cDoc K)) [] := ⟨⟨_, _, _, [], T.mk_Document, ok_Document T m_Document_make_1 F_Document_init, T.g_Document, (F_Document_init.bindsN fun _ _ _ _ _ _ us hl => match us, hl with | [_], _ => rfl), .nil⟩⟩
    have m_Document_remove : MetX PL_ w K mg base 3 (He.ga K "Document") "remove" (spD K cNever) [] := ⟨⟨_, _, _, [], T.cl_Document, T.me_Document_remove, no_remove  F_Document_remove, (F_Document_remove.bindsN fun _ _ _ _ _ _ us hl => match us, hl with | [_, _], _ => rfl), .nil⟩⟩
    have m_Document_place_before : MetX PL_ w K mg base 5 (He.ga K "Document") "place_before" (spD K (cPlace K)) [] := ⟨⟨_, _, _, [], T.cl_Document, T.me_Document_place_before, (fun F => ok_place T m_Node_is_text m_Node_path m_Node_levels_below m_Node_place_in m_Document_remove F tb_Document_place_before)  F_Document_place_before, (F_Document_place_before.bindsN fun _ _ _ _ _ _ us hl => match us, hl with | [_, _, _, _], _ => rfl), .nil⟩⟩
    have m_Document_append : MetX PL_ w K mg base 6 (He.ga K "Document") "append" (spD K (cAppend K)) [] := ⟨⟨_, _, _, [], T.cl_Document, T.me_Document_append, ok_append T m_Document_place_before F_Document_append, (F_Document_append.bindsN fun _ _ _ _ _ _ us hl => match us, hl with | [_, _, _], _ => rfl), .nil⟩⟩
    have m_Node_attribute : MetX PL_ w K mg base 1 (He.ga K "Node") "attribute" (spD K (cAttr K)) [] := ⟨⟨_, _, _, [], T.cl_Node, T.me_Node_attribute, ok_attribute T F_Node_attribute, (F_Node_attribute.bindsN fun _ _ _ _ _ _ us hl => match us, hl with | [_, _], _ => rfl), .nil⟩⟩
    have c_start_state : CalX PL_ w K mg base 2 "start_state" (spD K (cState K)) [] := ⟨⟨_, _, _, [], ok_state T m_Node_attribute F_start_state, T.g_start_state, F_start_state.kp, (F_start_state.bindsN fun _ _ _ _ _ _ us hl => match us, hl with | [_], _ => rfl), .nil⟩⟩
    have k_Scanner : MakX PL_ w K mg base 1 "Scanner" (He.ga K "Scanner") (spD K (cScI K)) [] := ⟨⟨_, _, _, [], T.mk_Scanner, ok_Scanner T F_Scanner_init, T.g_Scanner, (F_Scanner_init.bindsN fun _ _ _ _ _ _ us hl => match us, hl with | [_, _], _ => rfl), .nil⟩⟩
    have m_Scanner_here : MetX PL_ w K mg base 1 (He.ga K "Scanner") "here" (spD K (cHere K)) [] := by
      obtain ⟨ds, v, b⟩ := bnd_here F_Scanner_here
      exact ⟨⟨_, _, _, ds, T.cl_Scanner, T.me_Scanner_here, ok_here T F_Scanner_here, b, v⟩⟩
    have m_Scanner_here_1 : MetX PL_ w K mg base 1 (He.ga K "Scanner") "here" (spD K (cHere K)) [.int 1] := by
      obtain ⟨ds, v, b⟩ := bnd_here1 F_Scanner_here
      exact ⟨⟨_, _, _, ds, T.cl_Scanner, T.me_Scanner_here, ok_here T F_Scanner_here, b, v⟩⟩
    have m_Scanner_skip_blanks : MetX PL_ w K mg base 2 (He.ga K "Scanner") "skip_blanks" (spD K (cSkip K)) [] := ⟨⟨_, _, _, [], T.cl_Scanner, T.me_Scanner_skip_blanks, ok_skip T m_Scanner_here_1 F_Scanner_skip_blanks, (F_Scanner_skip_blanks.bindsN fun _ _ _ _ _ _ us hl => match us, hl with | [_], _ => rfl), .nil⟩⟩
    have m_Scanner_read_name : MetX PL_ w K mg base 2 (He.ga K "Scanner") "read_name" (spD K (cName K)) [] := ⟨⟨_, _, _, [], T.cl_Scanner, T.me_Scanner_read_name, ok_name T m_Scanner_here_1 F_Scanner_read_name, (F_Scanner_read_name.bindsN fun _ _ _ _ _ _ us hl => match us, hl with | [_], _ => rfl), .nil⟩⟩
    have m_Scanner_up_to : MetX PL_ w K mg base 1 (He.ga K "Scanner") "up_to" (spD K (cUp K)) [] := ⟨⟨_, _, _, [], T.cl_Scanner, T.me_Scanner_up_to, ok_up T F_Scanner_up_to, (F_Scanner_up_to.bindsN fun _ _ _ _ _ _ us hl => match us, hl with | [_, _], _ => rfl), .nil⟩⟩
    have c_with_entities : CalX PL_ w K mg base 1 "with_entities" (spD K (cWith K)) [] := ⟨⟨_, _, _, [], ok_with T kd_ENTITIES F_with_entities, T.g_with_entities, F_with_entities.kp, (F_with_entities.bindsN fun _ _ _ _ _ _ us hl => match us, hl with | [_], _ => rfl), .nil⟩⟩
    have k_TreeBuilder : MakX PL_ w K mg base 6 "TreeBuilder" (He.ga K "TreeBuilder") (spD K (cTB K)) [] := ⟨⟨_, _, _, [], T.mk_TreeBuilder, ok_tb T k_Scanner k_Document F_TreeBuilder_init, T.g_TreeBuilder, (F_TreeBuilder_init.bindsN fun _ _ _ _ _ _ us hl => match us, hl with | [_, _], _ => rfl), .nil⟩⟩
    have m_TreeBuilder_end_tag : MetX PL_ w K mg base 3 (He.ga K "TreeBuilder") "end_tag" (spD K (cStep K endF)) [] := ⟨⟨_, _, _, [], T.cl_TreeBuilder, T.me_TreeBuilder_end_tag, ok_end_tag T m_Scanner_here_1 m_Scanner_skip_blanks m_Scanner_read_name F_TreeBuilder_end_tag, (F_TreeBuilder_end_tag.bindsN fun _ _ _ _ _ _ us hl => match us, hl with | [_], _ => rfl), .nil⟩⟩
    have m_TreeBuilder_read_attributes : MetX PL_ w K mg base 3 (He.ga K "TreeBuilder") "read_attributes" (spD K (cAttrs K)) [] := ⟨⟨_, _, _, [], T.cl_TreeBuilder, T.me_TreeBuilder_read_attributes, ok_attrs T m_Scanner_here_1 m_Scanner_skip_blanks m_Scanner_read_name m_Scanner_up_to c_with_entities F_TreeBuilder_read_attributes, (F_TreeBuilder_read_attributes.bindsN fun _ _ _ _ _ _ us hl => match us, hl with | [_], _ => rfl), .nil⟩⟩
    have m_TreeBuilder_close_before : MetX PL_ w K mg base 1 (He.ga K "TreeBuilder") "close_before" (spD K (cClose K)) [] := ⟨⟨_, _, _, [], T.cl_TreeBuilder, T.me_TreeBuilder_close_before, ok_close T F_TreeBuilder_close_before, (F_TreeBuilder_close_before.bindsN fun _ _ _ _ _ _ us hl => match us, hl with | [_, _], _ => rfl), .nil⟩⟩
    have m_TreeBuilder_start_tag : MetX PL_ w K mg base 8 (He.ga K "TreeBuilder") "start_tag" (spD K (cStep K startF)) [] := ⟨⟨_, _, _, [], T.cl_TreeBuilder, T.me_TreeBuilder_start_tag, ok_start_tag T m_Scanner_read_name m_Scanner_up_to m_TreeBuilder_read_attributes m_TreeBuilder_close_before m_Document_make m_Document_make_1 m_Document_append c_start_state F_TreeBuilder_start_tag, (F_TreeBuilder_start_tag.bindsN fun _ _ _ _ _ _ us hl => match us, hl with | [_], _ => rfl), .nil⟩⟩
    have m_TreeBuilder_text_run : MetX PL_ w K mg base 8 (He.ga K "TreeBuilder") "text_run" (spD K (cStep K textF)) [] := ⟨⟨_, _, _, [], T.cl_TreeBuilder, T.me_TreeBuilder_text_run, ok_text_run T c_with_entities m_Document_make m_Document_append F_TreeBuilder_text_run, (F_TreeBuilder_text_run.bindsN fun _ _ _ _ _ _ us hl => match us, hl with | [_], _ => rfl), .nil⟩⟩
    have m_TreeBuilder_build : MetX PL_ w K mg base 9 (He.ga K "TreeBuilder") "build" (spD K (cBuild K)) [] := ⟨⟨_, _, _, [], T.cl_TreeBuilder, T.me_TreeBuilder_build, ok_build T m_Scanner_here m_Scanner_here_1 m_Scanner_up_to m_TreeBuilder_end_tag m_TreeBuilder_start_tag m_TreeBuilder_text_run F_TreeBuilder_build, (F_TreeBuilder_build.bindsN fun _ _ _ _ _ _ us hl => match us, hl with | [_], _ => rfl), .nil⟩⟩
    have c_parse_markup : CalX PL_ w K mg base 10 "parse_markup" (spD K (cParse K)) [] := ⟨⟨_, _, _, [], ok_parse T k_TreeBuilder m_TreeBuilder_build F_parse_markup, T.g_parse_markup, F_parse_markup.kp, (F_parse_markup.bindsN fun _ _ _ _ _ _ us hl => match us, hl with | [_], _ => rfl), .nil⟩⟩
    have k_Piece : MakX PL_ w K mg base 1 "Piece" (He.ga K "Piece") (spD K (cPiece K)) [] := ⟨⟨_, _, _, [], T.mk_Piece, ok_Piece T F_Piece_init, T.g_Piece, (F_Piece_init.bindsN fun _ _ _ _ _ _ us hl => match us, hl with | [_, _, _, _, _], _ => rfl), .nil⟩⟩
    have m_Piece_shown : MetX PL_ w K mg base 1 (He.ga K "Piece") "shown" (spD K (cShown K)) [] := ⟨⟨_, _, _, [], T.cl_Piece, T.me_Piece_shown, ok_shown T F_Piece_shown, (F_Piece_shown.bindsN fun _ _ _ _ _ _ us hl => match us, hl with | [_], _ => rfl), .nil⟩⟩
    have k_Line : MakX PL_ w K mg base 1 "Line" (He.ga K "Line") (spD K (cLineI K)) [] := ⟨⟨_, _, _, [], T.mk_Line, ok_Line T F_Line_init, T.g_Line, (F_Line_init.bindsN fun _ _ _ _ _ _ us hl => match us, hl with | [_], _ => rfl), .nil⟩⟩
    have m_Line_add : MetX PL_ w K mg base 1 (He.ga K "Line") "add" (spD K (cLineAdd K)) [] := ⟨⟨_, _, _, [], T.cl_Line, T.me_Line_add, ok_add T F_Line_add, (F_Line_add.bindsN fun _ _ _ _ _ _ us hl => match us, hl with | [_, _, _], _ => rfl), .nil⟩⟩
    have m_Line_shift : MetX PL_ w K mg base 1 (He.ga K "Line") "shift" (spD K (cShift K)) [] := ⟨⟨_, _, _, [], T.cl_Line, T.me_Line_shift, ok_shift T F_Line_shift, (F_Line_shift.bindsN fun _ _ _ _ _ _ us hl => match us, hl with | [_, _], _ => rfl), .nil⟩⟩
    have k_Breaker : MakX PL_ w K mg base 3 "Breaker" (He.ga K "Breaker") (spD K (cBkI K)) [] := ⟨⟨_, _, _, [], T.mk_Breaker, ok_Breaker T k_Line F_Breaker_init, T.g_Breaker, (F_Breaker_init.bindsN fun _ _ _ _ _ _ us hl => match us, hl with | [_, _], _ => rfl), .nil⟩⟩
    have m_Breaker_last : MetX PL_ w K mg base 1 (He.ga K "Breaker") "last" (spD K (cLast K)) [] := ⟨⟨_, _, _, [], T.cl_Breaker, T.me_Breaker_last, ok_last T F_Breaker_last, (F_Breaker_last.bindsN fun _ _ _ _ _ _ us hl => match us, hl with | [_], _ => rfl), .nil⟩⟩
    have m_Breaker_put_word : MetX PL_ w K mg base 3 (He.ga K "Breaker") "put_word" (spD K (cPutW K)) [] := ⟨⟨_, _, _, [], T.cl_Breaker, T.me_Breaker_put_word, ok_put_word T k_Line m_Line_add m_Breaker_last F_Breaker_put_word, (F_Breaker_put_word.bindsN fun _ _ _ _ _ _ us hl => match us, hl with | [_, _], _ => rfl), .nil⟩⟩
    have m_Breaker_put : MetX PL_ w K mg base 4 (He.ga K "Breaker") "put" (spD K (cPut K)) [] := ⟨⟨_, _, _, [], T.cl_Breaker, T.me_Breaker_put, ok_put T k_Line m_Breaker_last m_Breaker_put_word F_Breaker_put, (F_Breaker_put.bindsN fun _ _ _ _ _ _ us hl => match us, hl with | [_, _], _ => rfl), .nil⟩⟩
    have c_break_lines : CalX PL_ w K mg base 5 "break_lines" (spD K (cBreak K)) [] := ⟨⟨_, _, _, [], ok_break T k_Breaker m_Breaker_put m_Line_shift F_break_lines, T.g_break_lines, F_break_lines.kp, (F_break_lines.bindsN fun _ _ _ _ _ _ us hl => match us, hl with | [_, _, _], _ => rfl), .nil⟩⟩
    have c_widest : CalX PL_ w K mg base 6 "widest" (spD K (cWidest K)) [] := ⟨⟨_, _, _, [], ok_widest T c_break_lines F_widest, T.g_widest, F_widest.kp, (F_widest.bindsN fun _ _ _ _ _ _ us hl => match us, hl with | [_], _ => rfl), .nil⟩⟩
    have c_transformed : CalX PL_ w K mg base 1 "transformed" (spD K cTrans) [] := ⟨⟨_, _, _, [], ok_trans T F_transformed, T.g_transformed, F_transformed.kp, (F_transformed.bindsN fun _ _ _ _ _ _ us hl => match us, hl with | [_, _], _ => rfl), .nil⟩⟩
    have c_shown_value : CalX PL_ w K mg base 2 "shown_value" (spD K (cShownV K)) [] := ⟨⟨_, _, _, [], ok_shownv T m_Node_attribute F_shown_value, T.g_shown_value, F_shown_value.kp, (F_shown_value.bindsN fun _ _ _ _ _ _ us hl => match us, hl with | [_], _ => rfl), .nil⟩⟩
    have c_kept_pieces : CalX PL_ w K mg base 3 "kept_pieces" (spD K (cKept K)) [] := ⟨⟨_, _, _, [], ok_kept T k_Piece F_kept_pieces, T.g_kept_pieces, F_kept_pieces.kp, (F_kept_pieces.bindsN fun _ _ _ _ _ _ us hl => match us, hl with | [_, _], _ => rfl), .nil⟩⟩
    have c__law_lines : CalX PL_ w K mg base 1 "_law_lines" (spD K (cLines K)) [] := ⟨⟨_, _, _, [], ok_lines T F_law_lines, T.g__law_lines, F_law_lines.kp, (F_law_lines.bindsN fun _ _ _ _ _ _ us hl => match us, hl with | [_, _], _ => rfl), .nil⟩⟩
    have c__law_dice : CalX PL_ w K mg base 1 "_law_dice" (spD K cDice) [] := ⟨⟨_, _, _, [], ok_dice T F_law_dice, T.g__law_dice, F_law_dice.kp, (F_law_dice.bindsN fun _ _ _ _ _ _ us hl => match us, hl with | [_], _ => rfl), .nil⟩⟩
    have c__law_roll : CalX PL_ w K mg base 1 "_law_roll" (spD K Dn.cRoll) [] := ⟨⟨_, _, _, [], ok_roll T F_law_roll, T.g__law_roll, F_law_roll.kp, (F_law_roll.bindsN fun _ _ _ _ _ _ us hl => match us, hl with | [_, _], _ => rfl), .nil⟩⟩
    have c__law_rounds : CalX PL_ w K mg base 2 "_law_rounds" (spD K cRounds) [] := ⟨⟨_, _, _, [], ok_rounds T c__law_dice F_law_rounds, T.g__law_rounds, F_law_rounds.kp, (F_law_rounds.bindsN fun _ _ _ _ _ _ us hl => match us, hl with | [_, _], _ => rfl), .nil⟩⟩
    exact ok_law T ⟨k_Piece, m_Piece_shown, c_break_lines, c_widest, c_kept_pieces, c_transformed, c_shown_value, c__law_roll, c__law_lines⟩ c_parse_markup c__law_rounds F_law
end K05
open PySem PySem.W PySem.Calls PyProof.Rows
set_option maxHeartbeats 0 in
theorem PySem.Challenge.cw_pagestack_k05_lines_that_are_broken_holds : PySem.Challenge.rw_pagestack_k05_lines_that_are_broken.Holds := by
  w_on; o_law
  refine HandSHeadRun.head_any (r := OpenLaw.row PySem.Challenge.rw_pagestack_k05_lines_that_are_broken) (q := view (OpenLaw.row PySem.Challenge.rw_pagestack_k05_lines_that_are_broken).prog [36]) (H := K05.hk) (ob := K05.ob) (M := 20000) (loose := K05.looseN) (d := HandSHeadRun.topDef (OpenLaw.row PySem.Challenge.rw_pagestack_k05_lines_that_are_broken).prog 36) (kwd := []) K05.ob_eq
    (by kernel_rfl) (fun s => by kernel_rfl) K05.run (by kernel_rfl) (by kernel_rfl) (by kernel_rfl) (by rfl) (by first | assumption | decide +kernel) (by decide +kernel) ⟨rfl, rfl, rfl, rfl, rfl, by decide +kernel⟩ ?hw ?hc
  case hw => w_witness2
  case hc =>
    refine LamX.walk_ofTsE (l := PySem.Challenge.rw_pagestack_k05_lines_that_are_broken) (n := 63) (k := 40) (x := "script") (CX := fun w => L2.CX PySem.Challenge.rw_pagestack_k05_lines_that_are_broken.prog w) rfl (by decide) (by kernel_rfl) ⟨rfl, by decide, by decide⟩ ?F (fun w H s e s' z => ?hX)
    case F =>
      intro w mg fa h Y G hmg0
      obtain ⟨K, KX, c⟩ := Y
      have hmg : mg ("law" : PySem.Str) = some (.ref fa) := by
        have e : (HandSHeadRun.topDef (OpenLaw.row PySem.Challenge.rw_pagestack_k05_lines_that_are_broken).prog 36).name = ("law" : PySem.Str) := by kernel_rfl
        rw [← e]
        exact hmg0
      exact ⟨K, KX, K05.law_at_ w mg fa h KX G hmg c⟩
    case hX =>
      obtain ⟨_, _, _, _, _, _, _, _, _, _, _, _, z⟩ := z
      exact z



