import PyProof.Rows.All
import Wide.All
import OpenK.AllK
import Wide.FinOn
import PyProof.EqAt
import PyProof.EqKinds
import PyProof.TupleCall
import KE.KLam
import HandS.ForMost
import HandS.More
import HandS.Exc
import HandS.ExcOwn
import HandS.ExcCtx
import HandS.ExcIs
import HandS.TryOnly
import HandS.Codes
import HandS.Lambda
import HandS.Hot
import HandS.HotCalls
import HandS.Wide
import HandS.IsInst
import HandS.Defaults
import HandS.Steps
import HandS.Flow
import HandS.CallRecv
import HandS.HeadHook4
import HandS.HeadWalk
import HandS.Walk
import HandS.Text
import KE.IntTextLaws
import PyProof.CompFree
import PyProof.SumWalkG
import PyProof.Rows.SumAny
import HandS.WideBits
import HandS.TupAny
import HandS.SetFor
import PyProof.StrOps2
import HandS.Style
import PyProof.Rows.SortShellAny
import KE.GoesComp
import PyProof.MinMaxWalk
import PyProof.WalkInts
import PyProof.DictWalks
import KE.KDictWalk
import PySem.Challenge.RW_votewood_k73_merges_refused
import HandS.NoneIn
import HandS.Set
import HandS.TupSets
import PyProof.NeKinds
import HandS.Replace
import HandS.ReplaceLit
import HandS.Head0
import HandS.Head1
import HandS.Head2
set_option Elab.async false
set_option linter.all false
set_option maxRecDepth 100000
set_option maxHeartbeats 0
namespace Vw
open PySem PySem.Spec PyProof.Rows L2

/-! ### a def of the text that keeps its promise -/
structure Def (P : Program) (w : World) (K : PySem.W.Frag) (mg : Str → Option Value) (base : Heap) (k : Nat) (f : Addr) (ps : List Str) (sp : Sp) : Prop where
  ex : ∃ fd, FnOk P w K mg base (L2N.CX P w) k f fd ps sp ∧ Binds K fd ps []
  kp : PySem.W.keepIn K (.ref f) = true
theorem Def.mono {P : Program} {w : World} {K : PySem.W.Frag} {mg : Str → Option Value} {base : Heap} {j k : Nat} {f : Addr} {ps : List Str} {sp : Sp}
    (D : Def P w K mg base j f ps sp) (h : j ≤ k) : Def P w K mg base k f ps sp := by
  obtain ⟨⟨fd, F, b⟩, kp⟩ := D
  exact ⟨⟨fd, F.mono h, b⟩, kp⟩
theorem Def.imp {P : Program} {w : World} {K : PySem.W.Frag} {mg : Str → Option Value} {base : Heap} {k : Nat} {f : Addr} {ps : List Str} {sp sp' : Sp}
    (D : Def P w K mg base k f ps sp) (h : ∀ vs H Q E, sp' vs H Q E → sp vs H Q E) : Def P w K mg base k f ps sp' := by
  obtain ⟨⟨fd, F, b⟩, kp⟩ := D
  exact ⟨⟨fd, F.imp h, b⟩, kp⟩
/-- the text of a def stands at f -/
def Is (K : PySem.W.Frag) (x qual : Str) (st : Stmt) (f : Addr) : Prop := ∃ fd, FunD K x qual (defArgs st) (defBody st) (defScope st) [] [] f fd
abbrev cxN (P : Program) (w : World) (K : PySem.W.Frag) (mg : Str → Option Value) (base : Heap) (N : List Str) (qual : Str) (sc : Scope) (f : Addr) (cd : Value) (A : Around) (outer : List Env) (s : Shared) (H : Hp) (E : XK) : Cx :=
  cxOf (L2N.CX P w) P w K mg base N qual sc f cd A outer s H E
/-- how a def's arguments bind: no defaults -/
def BindEq (x qual : Str) (st : Stmt) (ps : List Str) : Prop :=
  ∀ (kV doc pm : Value) (an : Option Addr) (cdv ct : Value) (us : List Value), us.length = ps.length →
    bindArgs (PySem.W.fnOf x qual (defArgs st) (defBody st) (defScope st) .none kV doc pm an cdv ct) ⟨us, []⟩ = pure (ps.zip us)
section
variable {P : Program} {w : World} {K : PySem.W.Frag} {mg : Str → Option Value} {base : Heap}
theorem mk_def {x qual : Str} {st : Stmt} {f : Addr} {N ps : List Str} {k : Nat} {sp : Sp} (F : Is K x qual st f) (S : FnScope N ps (defScope st)) (hb : BindEq x qual st ps)
    (len : ∀ vs H Q E, sp vs H Q E → vs.length = ps.length)
    (body : ∀ (cdv : Value) (A : Around) (outer : List Env) (s : Shared) (H : Hp) (vs : List V) (Q : VK) (E : XK), Room k (A.deeper (envOfC qual (defScope st) s.heap.objs.size f cdv)) → sp vs H Q E →
      ∃ t, PSs (cxN P w K mg base N qual (defScope st) f cdv A outer s H E) (defBody st) t ∧ t { nx := fun _ H' => Q .non H', rt := Q } (start N vs) H) :
    Def P w K mg base (k + 1) f ps sp := by
  obtain ⟨fd, F⟩ := F
  exact ⟨⟨fd, F.ok S len body, F.bindsN hb⟩, F.kp⟩
theorem passE {N : List Str} {qual : Str} {sc : Scope} {f : Addr} {cd : Value} {A : Around} {outer : List Env} {s : Shared} {H : Hp} {E : XK} :
    Passes (L2N.CX P w) (cxN P w K mg base N qual sc f cd A outer s H E) E :=
  L2N.passes_call (L2N.takes_of rfl rfl rfl rfl) fun _ _ _ _ h => h
theorem takesE {N : List Str} {qual : Str} {sc : Scope} {f : Addr} {cd : Value} {A : Around} {outer : List Env} {s : Shared} {H : Hp} {E : XK} :
    L2N.Takes (cxN P w K mg base N qual sc f cd A outer s H E) (fun cls d _ H' => E cls d H') := L2N.takes_of rfl rfl rfl rfl
theorem ownE {N : List Str} {qual : Str} {sc : Scope} {f : Addr} {cd : Value} {A : Around} {outer : List Env} {s : Shared} {H : Hp} {E : XK} :
    PassesOwn (model P w) (cxN P w K mg base N qual sc f cd A outer s H E).A (cxN P w K mg base N qual sc f cd A outer s H E).env (cxN P w K mg base N qual sc f cd A outer s H E).xe :=
  passes_of (X := cxN P w K mg base N qual sc f cd A outer s H E) rfl
end
/-- where nothing may be let out -/
theorem passF {X : Cx} : Passes (L2N.CX X.prog X.w) X E0 := fun _ _ _ _ _ _ _ h => by
  obtain ⟨_, _, _, _, _, _, _, _, _, _, _, _, z⟩ := h
  exact z.elim
section
variable {X : Cx} {k : Nat} {f C : Addr} {ps : List Str} {sp : Sp} {E : XK} {x m : Str} {p pos apos : Pos} {e o : Expr} {es : List Expr} {ta : TE} {t : TA}
theorem pe_cd (D : Def X.prog X.w X.K X.mg X.base k f ps sp) (hr : Room k X.A) (hm : X.mg x = some (.ref f)) (hx : Passes (L2N.CX X.prog X.w) X E) (ha : PA X (e :: es) t)
    (hg : Gl X x := by rfl) (hdb : (x == ("__debug__" : Str)) = false := by decide) (he : starEach (e :: es) X.env = (false, eval e X.env) :: starEach es X.env := by rfl)
    (hpl : (backTo pos (starEach es X.env)).any (·.1) = false := by rfl) : PE X (.Call (.Name x p) (e :: es) [] pos) (tCall sp [] E t) := by
  obtain ⟨⟨fd, F, b⟩, kp⟩ := D
  exact pe_call F hr hg hm kp b .nil hx ha hdb he hpl
theorem pe_cd0 (D : Def X.prog X.w X.K X.mg X.base k f ps sp) (hr : Room k X.A) (hm : X.mg x = some (.ref f)) (hx : Passes (L2N.CX X.prog X.w) X E)
    (hg : Gl X x := by rfl) (hdb : (x == ("__debug__" : Str)) = false := by decide) : PE X (.Call (.Name x p) [] [] pos) (tCall sp [] E tNil) := by
  obtain ⟨⟨fd, F, b⟩, kp⟩ := D
  exact pe_call0 F hr hg hm kp b .nil hx hdb
theorem pe_md {pl : Sem Bool} (he : PE X o ta) (c : Cls X.K C) (hm : Meth X.K C m f) (D : Def X.prog X.w X.K X.mg X.base k f ps sp) (hr : Room k X.A) (hx : Passes (L2N.CX X.prog X.w) X E) (ha : PA X (e :: es) t)
    (hst : starEach (e :: es) X.env = (false, eval e X.env) :: starEach es X.env := by rfl) (hpl : (backTo pos (starEach es X.env)).any (·.1) = false := by rfl)
    (ht : eval (.Call (.Attribute o m apos) (e :: es) [] pos) X.env = (do
      let ov ← eval o X.env
      standAt apos.atName
      let (f, first) ← holding [ov] (getMethod ov m pl)
      callWith pos f first (backTo pos (starEach (e :: es) X.env)) (backToKw pos (keywordEach [] X.env))) := by rfl) :
    PE X (.Call (.Attribute o m apos) (e :: es) [] pos) (tMeth C m sp [] E ta t) := by
  obtain ⟨⟨fd, F, b⟩, kp⟩ := D
  exact pe_meth he c hm F hr b .nil hx ha hst hpl ht
theorem pe_md0 {pl : Sem Bool} (he : PE X o ta) (c : Cls X.K C) (hm : Meth X.K C m f) (D : Def X.prog X.w X.K X.mg X.base k f ps sp) (hr : Room k X.A) (hx : Passes (L2N.CX X.prog X.w) X E)
    (ht : eval (.Call (.Attribute o m apos) [] [] pos) X.env = (do
      let ov ← eval o X.env
      standAt apos.atName
      let (f, first) ← holding [ov] (getMethod ov m pl)
      callWith pos f first (backTo pos (starEach [] X.env)) (backToKw pos (keywordEach [] X.env))) := by rfl) :
    PE X (.Call (.Attribute o m apos) [] [] pos) (tMeth C m sp [] E ta tNil) := by
  obtain ⟨⟨fd, F, b⟩, kp⟩ := D
  exact pe_meth0 he c hm F hr b .nil hx ht
theorem pe_mk (M : Mk X.K C f) (D : Def X.prog X.w X.K X.mg X.base k f ps sp) (hr : Room (k + 1) X.A) (hm : X.mg x = some (.ref C)) (hx : Passes (L2N.CX X.prog X.w) X E) (ha : PA X (e :: es) t)
    (hg : Gl X x := by rfl) (hdb : (x == ("__debug__" : Str)) = false := by decide) (he : starEach (e :: es) X.env = (false, eval e X.env) :: starEach es X.env := by rfl)
    (hpl : (backTo pos (starEach es X.env)).any (·.1) = false := by rfl) : PE X (.Call (.Name x p) (e :: es) [] pos) (tMake C sp [] E t) := by
  obtain ⟨⟨fd, F, b⟩, kp⟩ := D
  exact pe_make M F hr hg hm b .nil hx ha hdb he hpl
theorem pe_mk0 (M : Mk X.K C f) (D : Def X.prog X.w X.K X.mg X.base k f ps sp) (hr : Room (k + 1) X.A) (hm : X.mg x = some (.ref C)) (hx : Passes (L2N.CX X.prog X.w) X E)
    (hg : Gl X x := by rfl) (hdb : (x == ("__debug__" : Str)) = false := by decide) : PE X (.Call (.Name x p) [] [] pos) (tMake C sp [] E tNil) := by
  obtain ⟨⟨fd, F, b⟩, kp⟩ := D
  exact pe_make0 M F hr hg hm b .nil hx hdb
end

/-! ### an own exception class; an own class -/
structure Exc (K : PySem.W.Frag) (mg : Str → Option Value) (x : Str) : Prop where
  g : mg x = some (.ref (He.ga K x))
  y : PySem.W.excIn K (He.ga K x) He.veBase "ValueError.__new__" = true
  k : PySem.W.keepIn K (.ref (He.ga K x)) = true
  b : PySem.W.subIn K (.ref (He.ga K x)) (.type "BaseException") = some true
  t : PySem.W.typeIn K (.ref (He.ga K x)) = some (.type "type")
section
variable {P : Program} {w : World} {K : PySem.W.Frag} {mg : Str → Option Value} {base : Heap}
/-- raise X('..') in a def -/
theorem ps_rs {N : List Str} {qual : Str} {sc : Scope} {f : Addr} {cd : Value} {A : Around} {outer : List Env} {s : Shared} {H : Hp} {E : XK} {x z : Str} {j : Nat} {p p2 pos pos2 : Pos} (T : Exc K mg x)
    (hg : Gl (cxN P w K mg base N qual sc f cd A outer s H E) x := by rfl) (hdb : (x == ("__debug__" : Str)) = false := by decide) :
    PS (cxN P w K mg base N qual sc f cd A outer s H E) (.Raise (some (.Call (.Name x p) [.Constant (.str z) j p2] [] pos)) none pos2) (fun _ _ H' => E (.ref (He.ga K x)) none H') :=
  L2N.ps_raise (W := fun cls d _ H' => E cls d H') rfl takesE (L2N.pmk_own PySem.F.excBase_ValueError T.y T.g T.k (raises_own T.b T.t) hg hdb)
end
structure Own (K : PySem.W.Frag) (mg : Str → Option Value) (x : Str) : Prop where
  g : mg x = some (.ref (He.ga K x))
  c : Cls K (He.ga K x)
  m : Mk K (He.ga K x) (He.ma K (He.ga K x) "__init__")
/-- a new object: forget all but that the rest stays -/
theorem fresh {H : Hp} {o : HO} {G : Addr → Hp → Prop} (h : ∀ (l : Addr) (H1 : Hp), Same H H1 → H l = none → H1 l = some o → G l H1) : ∀ l, H l = none → G l (upd H l o) := fun l hl =>
  h l _ (fun b u e => by rw [upd_ne (ne_of_none e hl)]; exact e) hl upd_same
/-- a constant of the module -/
structure GK (mg : Str → Option Value) (x : Str) (v : V) : Prop where
  ex : ∃ u, mg x = some u ∧ RelV v u
theorem pe_gk {X : Cx} {x : Str} {v : V} {pos : Pos} (h : GK X.mg x v) (hg : Gl X x := by rfl) (hd : (x == ("__debug__" : Str)) = false := by decide) : PE X (.Name x pos) (tC v) := by
  obtain ⟨u, e, r⟩ := h.ex
  exact pe_glob hg e r hd
/-- what the refusals' classes are to one another -/
structure Wd1 (K : PySem.W.Frag) (cs : List Str) (c : Str) : Prop where
  e : ExcC K (He.ga K c)
  m : PySem.W.exmOne K (.ref (He.ga K c)) (.ref (He.ga K "WoodError")) = some true
  v : PySem.W.kitOne K (.ref (He.ga K c)) (.type "ValueError") = some true
  d : ∀ d ∈ cs, PySem.W.kitOne K (.ref (He.ga K c)) (.ref (He.ga K d)) = some (decide (c = d))
def Word (K : PySem.W.Frag) (cs : List Str) : Prop := ∀ c ∈ cs, Wd1 K cs c
def oB (a b : Option Bool) : Bool := decide (a = b)
def excCB (K : PySem.W.Frag) (D : Addr) : Bool :=
  He.eqO (PySem.W.findIn K (.ref D) "__getattribute__") (some (some (.builtin "BaseException.__getattribute__"))) && (
  He.eqO (PySem.W.findIn K (.ref D) "__getattr__") (some none) && (
  oB (PySem.W.subIn K (.ref D) (.type "BaseException")) (some true) && (
  PySem.W.hasDictIn K D && (
  He.eqO (PySem.W.findIn K (.ref D) "__class__") (some (some (.builtin "object.__class__"))) && (
  He.eqO (PySem.W.specialIn K (.builtin "object.__class__") "__get__") (some (some (.builtin "getset_descriptor.__get__"))) && (
  oB (PySem.W.takesIn K (.builtin "object.__class__")) (some true) && oB (PySem.W.mroIn K D (.type "object")) (some true)))))))
theorem excCB_ok {K : PySem.W.Frag} {D : Addr} (h : excCB K D = true) : ExcC K D := by
  obtain ⟨h1, h⟩ := He.ba h
  obtain ⟨h2, h⟩ := He.ba h
  obtain ⟨h3, h⟩ := He.ba h
  obtain ⟨h4, h⟩ := He.ba h
  obtain ⟨h5, h⟩ := He.ba h
  obtain ⟨h6, h⟩ := He.ba h
  obtain ⟨h7, h8⟩ := He.ba h
  exact ⟨He.eqO_ok h1, He.eqO_ok h2, of_decide_eq_true h3, h4, He.eqO_ok h5, He.eqO_ok h6, of_decide_eq_true h7, of_decide_eq_true h8⟩
def wordB (K : PySem.W.Frag) (cs : List Str) : Bool := cs.all fun c => excCB K (He.ga K c) && (oB (PySem.W.exmOne K (.ref (He.ga K c)) (.ref (He.ga K "WoodError"))) (some true) && (
  oB (PySem.W.kitOne K (.ref (He.ga K c)) (.type "ValueError")) (some true) && cs.all fun d => oB (PySem.W.kitOne K (.ref (He.ga K c)) (.ref (He.ga K d))) (some (decide (c = d)))))
theorem wordB_ok {K : PySem.W.Frag} {cs : List Str} (h : wordB K cs = true) : Word K cs := fun c hc => by
  have h := List.all_eq_true.mp h c hc
  obtain ⟨h1, h⟩ := He.ba h
  obtain ⟨h2, h⟩ := He.ba h
  obtain ⟨h3, h4⟩ := He.ba h
  exact ⟨excCB_ok h1, of_decide_eq_true h2, of_decide_eq_true h3, fun d hd => of_decide_eq_true (List.all_eq_true.mp h4 d hd)⟩
section
variable {X : Cx} {o i e f value a b : Expr} {td ty tv tx ta tb : TE} {pos pos' apos cpos : Pos}
theorem pe_dg (ho : PE X o td) (hi : PE X i ty) (hu : X.A.units + 1 < cLine) (hs : NoSl i := by intro _ _; rfl) : PE X (.Subscript o i pos) (tDGet td ty) := pe_dget hu ho hi hs
theorem pc_di (hi : PE X i ty) (ho : PE X o td) (hu : X.A.units + 1 < cLine) : PC X .In i o (tDIn ty td) := pc_din hu hi ho
theorem pc_dni (hi : PE X i ty) (ho : PE X o td) (hu : X.A.units + 1 < cLine) : PC X .NotIn i o (tDNotIn ty td) := pc_dnotin hu hi ho
theorem ps_dp (ho : PE X o td) (hi : PE X i ty) (hv : PE X value tv) (hu : X.A.units + 1 < cLine) (hs : swapsWith value (some (.Subscript o i pos')) pos.line X.env = pure false := by rfl) :
    PS X (.Assign [.Subscript o i pos'] value pos) (sDPut td ty tv) := ps_dput hu ho hi hv hs
theorem pe_dg1 (ho : PE X o td) (he : PE X e ty) (hu : X.A.units + 1 < cLine) (m : M1 X o "get" apos e cpos := by exact ⟨rfl, rfl, rfl, rfl⟩) : PE X (.Call (.Attribute o "get" apos) [e] [] cpos) (tDGet1 td ty) := pe_dget1 hu ho he m
theorem pe_dg2 (ho : PE X o td) (he : PE X e ty) (hf : PE X f tx) (hu : X.A.units + 1 < cLine) (m : M2 X o "get" apos e f cpos := by exact ⟨rfl, rfl, rfl, rfl⟩) : PE X (.Call (.Attribute o "get" apos) [e, f] [] cpos) (tDGet2 td ty tx) := pe_dget2 hu ho he hf m
theorem pe_dp1 (ho : PE X o td) (he : PE X e ty) (m : M1 X o "pop" apos e cpos := by exact ⟨rfl, rfl, rfl, rfl⟩) : PE X (.Call (.Attribute o "pop" apos) [e] [] cpos) (tDPop1 td ty) := pe_dpop1 ho he m
theorem pe_dp2 (ho : PE X o td) (he : PE X e ty) (hf : PE X f tx) (m : M2 X o "pop" apos e f cpos := by exact ⟨rfl, rfl, rfl, rfl⟩) : PE X (.Call (.Attribute o "pop" apos) [e, f] [] cpos) (tDPop2 td ty tx) := pe_dpop2 ho he hf m
theorem pe_eqd (ha : PE X a ta) (hb : PE X b tb) (hu : X.A.units + 64 < cLine) : PE X (.Compare a [.Eq] [b] pos) (tOp (rEqD X.K) ta tb) := pe_cmpR (op_eqD hu) ha hb (nomark _)
theorem pt_eqd (ha : PE X a ta) (hb : PE X b tb) (hu : X.A.units + 64 < cLine) : PT X (.Compare a [.Eq] [b] pos) (tTest (tOp (rEqD X.K) ta tb)) := pt_cmpR (op_eqD hu) ha hb (nomark _)
theorem pe_ned (ha : PE X a ta) (hb : PE X b tb) (hu : X.A.units + 64 < cLine) : PE X (.Compare a [.NotEq] [b] pos) (tOp (rNeD X.K) ta tb) := pe_cmpR (op_neD hu) ha hb (nomark _)
theorem pt_ned (ha : PE X a ta) (hb : PE X b tb) (hu : X.A.units + 64 < cLine) : PT X (.Compare a [.NotEq] [b] pos) (tTest (tOp (rNeD X.K) ta tb)) := pt_cmpR (op_neD hu) ha hb (nomark _)
end
/-- rules that name the written part: within a comprehension's block -/
theorem pe_fldK (K : PySem.W.Frag) {X : Cx} {e : Expr} {ta : TE} {f : Str} {pos : Pos} (he : PE X e ta) (hb : attributeBase e f X.env (eval e X.env) = eval e X.env := by rfl) (hK : X.K = K := by rfl) : PE X (.Attribute e f pos) (tFld K ta f) := by
  subst hK
  exact pe_fld he hb
end Vw
namespace Vw
open PySem PySem.Spec PyProof.Rows L2
theorem cxOf_K {CX : CXT} {P : Program} {w : World} {K : PySem.W.Frag} {mg : Str → Option Value} {base : Heap} {N : List Str} {qual : Str} {sc : Scope} {f : Addr} {cd : Value} {A : Around} {outer : List Env} {s : Shared} {H : Hp} {E : XK} :
    (cxOf CX P w K mg base N qual sc f cd A outer s H E).K = K := rfl
/-! ### comprehensions that change nothing -/
theorem filterMap_take {α β : Type} (f : α → Option β) {l : List α} {i : Nat} {a : α} (h : l[i]? = some a) : (l.take (i + 1)).filterMap f = (l.take i).filterMap f ++ (f a).toList := by
  rw [List.take_add_one, h, List.filterMap_append]
  cases e : f a <;> simp [e]
theorem lc_ro {α : Type} {J : It} {G : Hp → Prop} {Y : Nat → Hp → V → Hp → Prop} (l : List α) (w : Walk J l.length G Y) (f : α → Option V) {g : TG} {tt : TT} {te : TE} {vs : List Nat} {σ : L2.St} {H1 : Hp} {D : Addr} {Qd : Hp → Prop}
    (hn : l.length < sizeLine) (hD : H1 D = none) (hG : ∀ H, Same H1 H → G H)
    (hs : ∀ i a x H H', l[i]? = some a → Same H1 H → Y i H x H' → ∀ (N1 : V → Hp → Prop) (N0 : Hp → Prop), (∀ y H4, Same H H4 → f a = some y → N1 y H4) → (∀ H3, Same H H3 → f a = none → N0 H3) →
      g x (wipe σ vs) H' fun σ2 H2 => wipe σ2 vs = wipe σ vs ∧ tt σ2 H2 fun b H3 => if b = true then te σ2 H3 N1 else N0 H3)
    (hd : ∀ H, Same H1 H → H D = some (.lst (l.filterMap f)) → Qd H) :
    ∃ W : Nat → Nat → Hp → Prop, (∃ m, W 0 m (upd H1 D (.lst []))) ∧ ∀ i m H, W i m H →
      (J.stop i H ∧ Qd H) ∨ (J.go i H ∧ ∃ Nx : Hp → Prop, (∀ H', Nx H' → ∃ m', m' < m ∧ W (i + 1) m' H') ∧ ∀ x H', J.yld i H x H' → g x (wipe σ vs) H' fun σ2 H2 => wipe σ2 vs = wipe σ vs ∧ tt σ2 H2 fun b H3 =>
        if b = true then te σ2 H3 fun y H4 => ∃ acc, H4 D = some (.lst acc) ∧ acc.length < sizeLine ∧ Nx (upd H4 D (.lst (acc ++ [y]))) else Nx H3) := by
  have new : ∀ {H : Hp} {o : HO}, Same H1 H → Same H1 (upd H D o) := fun {H o} s b u e => by
    rw [upd_ne (ne_of_none e hD)]
    exact s b u e
  refine lc_it w (fun i H => Same H1 H ∧ H D = some (.lst ((l.take i).filterMap f))) ⟨new (Same.refl _), ?_⟩ (fun i H _ p => hG H p.1) (fun i x H H' hi p y => ?_) (fun H p => ?_)
  · rw [upd_same]
    simp
  · obtain ⟨a, ha⟩ : ∃ a, l[i]? = some a := ⟨l[i], by simp [hi]⟩
    refine hs i a x H H' ha p.1 y _ _ (fun y H4 s4 ef => ⟨_, s4 _ _ p.2, ?_, new (p.1.trans s4), ?_⟩) (fun H3 s3 ef => ⟨p.1.trans s3, ?_⟩)
    · have h1 := List.length_filterMap_le f (l.take i)
      have h2 : (l.take i).length ≤ l.length := by rw [List.length_take]; omega
      omega
    · rw [upd_same, filterMap_take f ha, ef]
      rfl
    · rw [filterMap_take f ha, ef, s3 _ _ p.2]
      simp
  · have e := p.2
    rw [List.take_length] at e
    exact hd H p.1 e
/-! ### a lock that is opened again -/
theorem Same.lock {H H' : Hp} {d : Addr} {u f : HO} (hd : H d = some u) (s : Same (upd H d f) H') : Same H (upd H' d u) := fun b o e => by
  by_cases hb : b = d
  · subst hb
    rw [hd] at e
    cases e
    exact upd_same
  · rw [upd_ne hb]
    exact s b o (by rw [upd_ne hb]; exact e)
theorem Same.at {H H' : Hp} {a : Addr} {o : HO} (s : Same H H') (h : H a = some o) : H' a = some o := s a o h
theorem Same.new {H : Hp} {l : Addr} {o : HO} (hl : H l = none) : Same H (upd H l o) := fun b u e => by rw [upd_ne (ne_of_none e hl)]; exact e
mutual
theorem dp_same {K : PySem.W.Frag} {H H' : Hp} (s : Same H H') : ∀ {x : V} {d : PyData}, Dp K H x d → Dp K H' x d
  | _, _, .non => .non
  | _, _, .bl b => .bl b
  | _, _, .int i => .int i
  | _, _, .str z => .str z
  | _, _, .lst hs h => .lst (s.seq hs) (dps_same s h)
  | _, _, .tup hs h => .tup (by
      rcases hs with (h | ⟨o, h⟩) | h
      · exact .inl (.inl (s _ _ h))
      · exact .inl (.inr ⟨o, s _ _ h⟩)
      · exact .inr h) (dps_same s h)
theorem dps_same {K : PySem.W.Frag} {H H' : Hp} (s : Same H H') : ∀ {xs : List V} {ds : List PyData}, DpAll K H xs ds → DpAll K H' xs ds
  | _, _, .nil => .nil
  | _, _, .cons h t => .cons (dp_same s h) (dps_same s t)
end
theorem Same.tup {K : PySem.W.Frag} {H H' : Hp} {a : Addr} {xs : List V} (s : Same H H') (h : SqT K H a xs) : SqT K H' a xs := by
  rcases h with (h | ⟨o, h⟩) | h
  · exact .inl (.inl (s _ _ h))
  · exact .inl (.inr ⟨o, s _ _ h⟩)
  · exact .inr h
/-! ### comprehensions by their source -/
section
variable {K : PySem.W.Frag} {te0 : TE} {g : TG} {tt : TT} {te : TE} {vs : List Nat} {σ : L2.St} {H : Hp} {Q : VK}
/-- one turn: the item x; N1 behind an element, N0 where the test fails -/
def Turn1 {α : Type} (f : α → Option V) (g : TG) (tt : TT) (te : TE) (vs : List Nat) (σ : L2.St) (H : Hp) (a : α) (x : V) : Prop :=
  ∀ (N1 : V → Hp → Prop) (N0 : Hp → Prop), (∀ y H4, Same H H4 → f a = some y → N1 y H4) → (∀ H3, Same H H3 → f a = none → N0 H3) →
    g x (wipe σ vs) H fun σ2 H2 => wipe σ2 vs = wipe σ vs ∧ tt σ2 H2 fun b H3 => if b = true then te σ2 H3 N1 else N0 H3
/-- over a text -/
theorem lcS {z : Str} (f : Nat → Option V) (src : ∀ R : VK, R (.str z) H → te0 σ H R) (hn : z.length < sizeLine)
    (hs : ∀ c H', c ∈ z.cps.toList → Same H H' → Turn1 f g tt te vs σ H' c (.str ⟨#[c]⟩))
    (hd : ∀ D H', H D = none → Same H H' → H' D = some (.lst (z.cps.toList.filterMap f)) → Q (.ref D) H') : tLc (iStr te0) g tt te vs σ H Q := by
  refine src _ ⟨z, rfl, fun D hD => ?_⟩
  have w : Walk (Its z) z.cps.toList.length (fun _ => True) (fun i H v H' => H' = H ∧ ∃ c, z.cps[i]? = some c ∧ v = .str ⟨#[c]⟩) := by
    rw [Array.length_toList]
    exact walk_str
  refine lc_ro z.cps.toList w f (by rw [Array.length_toList]; exact hn) hD (fun _ _ => trivial) (fun i a x H1 H2 ha s1 y => ?_) (fun H' s1 e => hd D H' hD s1 e)
  obtain ⟨rfl, c, hc, rfl⟩ := y
  have e : c = a := by
    rw [Array.getElem?_toList] at ha
    rw [hc] at ha
    exact Option.some.inj ha
  subst e
  exact hs c _ (List.mem_of_getElem? ha) s1
/-- over a list that is made, or stands -/
theorem lcL {α : Type} {l : List α} (it : α → V) (f : α → Option V) (src : ∀ R : VK, (∀ p H1, Same H H1 → SqL K H1 p (l.map it) → R (.ref p) H1) → te0 σ H R) (hn : l.length < sizeLine)
    (hs : ∀ a H', a ∈ l → Same H H' → Turn1 f g tt te vs σ H' a (it a))
    (hd : ∀ D H', H D = none → Same H H' → H' D = some (.lst (l.filterMap f)) → Q (.ref D) H') : tLc (iList K te0) g tt te vs σ H Q := by
  refine src _ fun p H1 s1 hp => ⟨p, rfl, ⟨_, hp⟩, fun D hD => ?_⟩
  have w : Walk (Itl K p) l.length (fun H => SqL K H p (l.map it)) (YAt (l.map it)) := by
    have w := walk_list (K := K) (a := p) (xs := l.map it)
    rw [List.length_map] at w
    exact w
  refine lc_ro l w f hn hD (fun H' s => s.seq hp) (fun i a x H2 H3 ha s2 y => ?_) (fun H' s2 e => hd D H' (s1.free hD) (s1.trans s2) e)
  obtain ⟨rfl, hx⟩ := y
  have e : x = it a := by
    rw [List.getElem?_map, ha] at hx
    exact (Option.some.inj hx).symm
  subst e
  exact hs a _ (List.mem_of_getElem? ha) (s1.trans s2)
/-- over a range -/
theorem lcR {n : Int} {ta : TA} (f : Nat → Option V) (src : ∀ R : List V → Hp → Prop, R [.int n] H → ta σ H R) (hn : n < 10000)
    (hs : ∀ (i : Nat) H', (i : Int) < n → Same H H' → Turn1 f g tt te vs σ H' i (.int i))
    (hd : ∀ D H', H D = none → Same H H' → H' D = some (.lst ((List.range n.toNat).filterMap f)) → Q (.ref D) H') (h0 : -10000 < n := by omega) : tLc (iRng1 ta) g tt te vs σ H Q := by
  refine src _ ⟨n, rfl, by omega, by omega, fun D hD => ?_⟩
  have w : Walk (Itr 0 n.toNat) (List.range n.toNat).length (fun _ => True) (YFn fun i => .int (0 + (i : Nat))) := by
    rw [List.length_range]
    exact walk_range
  refine lc_ro (List.range n.toNat) w f (by rw [List.length_range, sizeLine_eq]; omega) hD (fun _ _ => trivial) (fun i a x H2 H3 ha s2 y => ?_) (fun H' s2 e => hd D H' hD s2 e)
  obtain ⟨rfl, rfl⟩ := y
  have hi : i < n.toNat := by
    have := (List.getElem?_eq_some_iff.mp ha).1
    rwa [List.length_range] at this
  have e : i = a := by
    rw [List.getElem?_range hi] at ha
    exact Option.some.inj ha
  subst e
  have q := hs i H3 (by omega) s2
  have z : (0 : Int) + ((i : Nat) : Int) = (i : Int) := by omega
  dsimp only
  rw [z]
  exact q
/-- over a dict's keys, under its lock -/
theorem lcK {α : Type} {l : List α} {d : Addr} (kv : α → Key × V) (f : α → Option V) (hk : H d = some (.dK (l.map kv))) (src : ∀ (H' : Hp) (R : VK), (∀ b o, b ≠ d → H b = some o → H' b = some o) → R (.ref d) H' → te0 σ H' R) (hn : l.length < sizeLine)
    (hs : ∀ a H' od, a ∈ l → (∀ b o, b ≠ d → H b = some o → H' b = some o) → H' d = some (.frz od (.dK (l.map kv))) → Turn1 f g tt te vs σ H' a (kV (kv a).1))
    (hd : ∀ D H', H D = none → Same H H' → H' D = some (.lst (l.filterMap f)) → Q (.ref D) H') : tLockE (tLc (iKeys te0) g tt te vs) σ H Q := by
  refine ⟨d, _, hk, trivial, fun od => ?_⟩
  have un : ∀ H', Same (upd H d (.frz od (.dK (l.map kv)))) H' → ∀ b o, b ≠ d → H b = some o → H' b = some o := fun H' s b o hb e => s b o (by rw [upd_ne hb]; exact e)
  refine src _ _ (un _ (Same.refl _)) ⟨d, od, rfl, .inl ⟨_, upd_same, fun D hD => ?_⟩⟩
  have nD : D ≠ d := fun z => by
    rw [z, upd_same] at hD
    cases hD
  have w : Walk (Itk d od (l.map kv)) l.length (fun H => H d = some (.frz od (.dK (l.map kv)))) (fun i H x H' => H' = H ∧ ∃ k v, (l.map kv)[i]? = some (k, v) ∧ x = kV k) := by
    have w := walk_keys (d := d) (o := od) (kvs := l.map kv)
    rw [List.length_map] at w
    exact w
  refine lc_ro l w f hn hD (fun H' s => s _ _ upd_same) (fun i a x H2 H3 ha s2 y => ?_) (fun H' s2 e => ⟨s2 _ _ upd_same, hd D _ (by rw [upd_ne nD] at hD; exact hD) (Same.lock hk s2) (by rw [upd_ne nD]; exact e)⟩)
  obtain ⟨rfl, k, v, hx, rfl⟩ := y
  have e : (k, v) = kv a := by
    rw [List.getElem?_map, ha] at hx
    exact (Option.some.inj hx).symm
  have e1 : k = (kv a).1 := congrArg Prod.fst e
  rw [e1]
  exact hs a _ od (List.mem_of_getElem? ha) (un _ s2) (s2 _ _ upd_same)
end
/-! ### for over a list -/
theorem forL {α : Type} {K : PySem.W.Frag} {te0 : TE} {g : TG} {tb : TS} {D : Ends} {σ : L2.St} {H : Hp} {l : List α} (it : α → V) (src : ∀ R : VK, (∀ p H1, Same H H1 → SqL K H1 p (l.map it) → R (.ref p) H1) → te0 σ H R)
    (Pv : Addr → Nat → L2.St → Hp → Prop) (h0 : ∀ p H1, Same H H1 → SqL K H1 p (l.map it) → Pv p 0 σ H1) (hG : ∀ p i σ' H', i ≤ l.length → Pv p i σ' H' → SqL K H' p (l.map it))
    (hs : ∀ p i a σ' H', l[i]? = some a → Pv p i σ' H' → g (it a) σ' H' fun σ2 H2 => tb { D with nx := Pv p (i + 1), ct := Pv p (i + 1), bk := D.nx } σ2 H2)
    (hd : ∀ p σ' H', Pv p l.length σ' H' → D.nx σ' H') : tFor (iList K te0) g tb D σ H := by
  refine src _ fun p H1 s1 hp => ⟨p, rfl, ⟨_, hp⟩, ?_⟩
  have w : Walk (Itl K p) l.length (fun H => SqL K H p (l.map it)) (YAt (l.map it)) := by
    have w := walk_list (K := K) (a := p) (xs := l.map it)
    rw [List.length_map] at w
    exact w
  refine for_it w (Pv p) (h0 p H1 s1 hp) (hG p) (fun i x σ' H2 H3 hi p1 y => ?_) (hd p)
  obtain ⟨rfl, hx⟩ := y
  obtain ⟨a, ha⟩ : ∃ a, l[i]? = some a := ⟨l[i], by simp [hi]⟩
  have e : x = it a := by
    rw [List.getElem?_map, ha] at hx
    exact (Option.some.inj hx).symm
  subst e
  exact hs p i a σ' _ ha p1
/-- for over range(n) -/
theorem forR {n : Int} {ta : TA} {g : TG} {tb : TS} {D : Ends} {σ : L2.St} {H : Hp} (src : ∀ R : List V → Hp → Prop, R [.int n] H → ta σ H R) (hn : n < 100000)
    (Pv : Nat → L2.St → Hp → Prop) (h0 : Pv 0 σ H)
    (hs : ∀ (i : Nat) σ' H', (i : Int) < n → Pv i σ' H' → g (.int i) σ' H' fun σ2 H2 => tb { D with nx := Pv (i + 1), ct := Pv (i + 1), bk := D.nx } σ2 H2)
    (hd : ∀ σ' H', Pv n.toNat σ' H' → D.nx σ' H') (hl : -100000 < n := by omega) : tFor (iRng1 ta) g tb D σ H := by
  refine src _ ⟨n, rfl, by omega, by omega, for_it walk_range Pv h0 (fun _ _ _ _ _ => trivial) (fun i x σ' H2 H3 hi p1 y => ?_) hd⟩
  obtain ⟨rfl, rfl⟩ := y
  have q := hs i σ' H3 (by omega) p1
  have z : (0 : Int) + ((i : Nat) : Int) = (i : Int) := by omega
  dsimp only
  rw [z]
  exact q
theorem lkA {te : TE} {i : Nat} {D : Ends} {σ : L2.St} {H : Hp} (h : tLockE te σ H fun x H1 => D.nx (σ.set i (some x)) H1) : tLock (tAsg te (gName i)) D σ H := h
end Vw
namespace Vw
open PySem PySem.Spec PyProof.Rows L2
theorem toNat_inj {a b : Char} (h : a.toNat = b.toNat) : a = b := Char.ext (UInt32.toNat_inj.mp h)
theorem map_toNat_inj : ∀ {l m : List Char}, l.map Char.toNat = m.map Char.toNat → l = m
  | [], [], _ => rfl
  | [], _ :: _, h => by simp at h
  | _ :: _, [], h => by simp at h
  | a :: l, b :: m, h => by
    simp only [List.map_cons, List.cons.injEq] at h
    rw [toNat_inj h.1, map_toNat_inj h.2]
theorem ofString_inj {a b : String} : (Str.ofString a = Str.ofString b) = (a = b) := by
  refine propext ⟨fun h => ?_, fun h => by rw [h]⟩
  rw [Str.ofString_eq_toList, Str.ofString_eq_toList] at h
  have h1 : (a.toList.map Char.toNat).toArray = (b.toList.map Char.toNat).toArray := congrArg Str.cps h
  have h2 : a.toList.map Char.toNat = b.toList.map Char.toNat := by simpa using h1
  exact String.toList_inj.mp (map_toNat_inj h2)
theorem lookup_if {β : Type} (k a : Str) (b : β) (l : List (Str × β)) : List.lookup k ((a, b) :: l) = if k = a then some b else List.lookup k l := by
  rw [List.lookup_cons]
  by_cases h : k = a
  · subst h
    simp
  · have : (k == a) = false := by simpa using h
    rw [this, if_neg h]
/-! ### the mirror: a saying, a wood -/
structure Row where
  who : Str
  under : Int
  text : Str
  time : Int
  votes : List (Str × Int)
  struck : Bool
def Row.ups (r : Row) : Int := ((r.votes.filter fun p => decide (0 < p.2)).length : Nat)
def Row.downs (r : Row) : Int := ((r.votes.filter fun p => decide (p.2 < 0)).length : Nat)
def Row.points (r : Row) : Int := r.ups - r.downs
def Row.told (r : Row) : Option Str := if r.struck then none else some r.text
inductive Er where
  | name | no | text | full | yours | number | deed | nothing | kin
  deriving DecidableEq
def Er.cls : Er → Str
  | .name => "BadName" | .no => "NoSaying" | .text => "BadText" | .full => "Full" | .yours => "NotYours" | .number => "BadNumber" | .deed => "BadDeed" | .nothing => "Nothing" | .kin => "NotKin"
/-- the wish of a refusal -/
abbrev Bad (K : PySem.W.Frag) (E : XK) (e : Er) (H : Hp) : Prop := E (.ref (He.ga K e.cls)) none H
def sayFs (r : Row) (v : Addr) : List (Str × V) := [("by", .str r.who), ("under", .int r.under), ("text", .str r.text), ("time", .int r.time), ("votes", .ref v), ("is_struck", .bl r.struck)]
def woodFs (d : Addr) (c k : Int) : List (Str × V) := [("sayings", .ref d), ("came", .int c), ("clock", .int k)]
section
variable (r : Row) (v d : Addr) (c k : Int)
theorem fs_by : (sayFs r v).lookup (Str.ofString "by") = some (.str r.who) := by simp [sayFs, lookup_if, ofString_inj]
theorem fs_under : (sayFs r v).lookup (Str.ofString "under") = some (.int r.under) := by simp [sayFs, lookup_if, ofString_inj]
theorem fs_text : (sayFs r v).lookup (Str.ofString "text") = some (.str r.text) := by simp [sayFs, lookup_if, ofString_inj]
theorem fs_time : (sayFs r v).lookup (Str.ofString "time") = some (.int r.time) := by simp [sayFs, lookup_if, ofString_inj]
theorem fs_votes : (sayFs r v).lookup (Str.ofString "votes") = some (.ref v) := by simp [sayFs, lookup_if, ofString_inj]
theorem fs_struck : (sayFs r v).lookup (Str.ofString "is_struck") = some (.bl r.struck) := by simp [sayFs, lookup_if, ofString_inj]
theorem fs_ups : (sayFs r v).lookup (Str.ofString "ups") = none := by simp [sayFs, lookup_if, ofString_inj]
theorem fs_downs : (sayFs r v).lookup (Str.ofString "downs") = none := by simp [sayFs, lookup_if, ofString_inj]
theorem fs_points : (sayFs r v).lookup (Str.ofString "points") = none := by simp [sayFs, lookup_if, ofString_inj]
theorem fp_text (t : Str) : putF (Str.ofString "text") (.str t) (sayFs r v) = sayFs { r with text := t } v := by simp [sayFs, putF, ofString_inj]
theorem fp_struck (b : Bool) : putF (Str.ofString "is_struck") (.bl b) (sayFs r v) = sayFs { r with struck := b } v := by simp [sayFs, putF, ofString_inj]
theorem fp_votes (u : Addr) (vs : List (Str × Int)) : putF (Str.ofString "votes") (.ref u) (sayFs r v) = sayFs { r with votes := vs } u := by simp [sayFs, putF, ofString_inj]
theorem fs_len : (sayFs r v).length = 6 := rfl
theorem fw_sayings : (woodFs d c k).lookup (Str.ofString "sayings") = some (.ref d) := by simp [woodFs, lookup_if, ofString_inj]
theorem fw_came : (woodFs d c k).lookup (Str.ofString "came") = some (.int c) := by simp [woodFs, lookup_if, ofString_inj]
theorem fw_clock : (woodFs d c k).lookup (Str.ofString "clock") = some (.int k) := by simp [woodFs, lookup_if, ofString_inj]
theorem fpw_came (z : Int) : putF (Str.ofString "came") (.int z) (woodFs d c k) = woodFs d z k := by simp [woodFs, putF, ofString_inj]
theorem fpw_clock (z : Int) : putF (Str.ofString "clock") (.int z) (woodFs d c k) = woodFs d c z := by simp [woodFs, putF, ofString_inj]
theorem fw_len : (woodFs d c k).length = 3 := rfl
end
theorem fw_no (d : Addr) (c k : Int) {m : String} (h1 : m ≠ "sayings") (h2 : m ≠ "came") (h3 : m ≠ "clock") : (woodFs d c k).lookup (Str.ofString m) = none := by
  simp [woodFs, lookup_if, ofString_inj, h1, h2, h3]
/-! ### names and texts -/
def small : List Nat := (Str.ofString "abcdefghijklmnopqrstuvwxyz").cps.toList
def nameZ (z : Str) : Bool := decide (1 ≤ z.length) && decide (z.length ≤ 6) && z.cps.toList.all fun c => decide (c ∈ small)
def signOk (c : Nat) : Bool := decide (32 ≤ c) && decide (c ≤ 126) && decide (c ≠ 37)
def textZ (z : Str) : Bool := decide (1 ≤ z.length) && decide (z.length ≤ 30) && z.cps.toList.all signOk
def nameOk : PyData → Bool
  | .str z => nameZ z
  | _ => false
def textOk : PyData → Bool
  | .str z => textZ z
  | _ => false
/-- a text is not too long for the machine -/
def Short : PyData → Prop
  | .str z => z.length < sizeLine
  | _ => True
def isCount (d : PyData) (lo hi : Int) : Bool := match d with
  | .int i => decide (lo ≤ i) && decide (i ≤ hi)
  | _ => false
end Vw
namespace Vw
open PySem PySem.Spec PyProof.Rows L2
/-! ### rows by numbers, what is above and below -/
abbrev Rows := List (Int × Row)
def findR (rs : Rows) (n : Int) : Option Row := (rs.find? fun p => decide (p.1 = n)).map (·.2)
def upR (rs : Rows) (n : Int) : Int := ((findR rs n).map (·.under)).getD 0
def aboveR (rs : Rows) (n : Int) : List Int := if h : 0 < n ∧ 0 ≤ upR rs n ∧ upR rs n < n then upR rs n :: aboveR rs (upR rs n) else []
termination_by n.toNat
decreasing_by omega
structure Wf (rs : Rows) : Prop where
  nk : (rs.map (·.1)).Nodup
  pos : ∀ p ∈ rs, 0 < p.1
  u0 : ∀ p ∈ rs, 0 ≤ p.2.under
  ult : ∀ p ∈ rs, p.2.under < p.1
  has : ∀ p ∈ rs, p.2.under = 0 ∨ ∃ r, findR rs p.2.under = some r
theorem findR_mem {rs : Rows} {n : Int} {r : Row} (h : findR rs n = some r) : (n, r) ∈ rs := by
  unfold findR at h
  cases e : rs.find? fun p => decide (p.1 = n) with
  | none => rw [e] at h; cases h
  | some p =>
    rw [e] at h
    have h1 := List.mem_of_find?_eq_some e
    have h2 := List.find?_some e
    simp only [decide_eq_true_eq] at h2
    simp only [Option.map_some, Option.some.injEq] at h
    rw [← h, ← h2]
    exact h1
theorem findR_of {rs : Rows} (nk : (rs.map (·.1)).Nodup) {n : Int} {r : Row} (h : (n, r) ∈ rs) : findR rs n = some r := by
  induction rs with
  | nil => cases h
  | cons q t ih =>
    simp only [List.map_cons, List.nodup_cons] at nk
    unfold findR
    rw [List.find?_cons]
    rcases List.mem_cons.mp h with rfl | h
    · simp
    · have hn : ¬ q.1 = n := fun z => nk.1 (List.mem_map.mpr ⟨(n, r), h, z.symm⟩)
      simp only [hn, decide_false]
      exact ih nk.2 h
theorem findR_none {rs : Rows} {n : Int} : findR rs n = none ↔ ∀ p ∈ rs, p.1 ≠ n := by
  unfold findR
  rw [Option.map_eq_none_iff, List.find?_eq_none]
  simp
section
variable {rs : Rows} (F : Wf rs)
include F
theorem Wf.up {n : Int} {r : Row} (h : findR rs n = some r) : upR rs n = r.under ∧ 0 < n ∧ 0 ≤ r.under ∧ r.under < n := by
  have m := findR_mem h
  refine ⟨by unfold upR; rw [h]; rfl, F.pos _ m, F.u0 _ m, F.ult _ m⟩
theorem Wf.above {n : Int} {r : Row} (h : findR rs n = some r) : aboveR rs n = r.under :: aboveR rs r.under := by
  obtain ⟨e, h1, h2, h3⟩ := F.up h
  rw [aboveR, dif_pos (by rw [e]; exact ⟨h1, h2, h3⟩), e]
end
theorem above_zero (rs : Rows) : aboveR rs 0 = [] := by
  rw [aboveR, dif_neg (by omega)]
/-- all above a saying is less, and is 0 or there -/
theorem Wf.above_lt {rs : Rows} (F : Wf rs) : ∀ (k : Nat) (n : Int), n.toNat ≤ k → ∀ m ∈ aboveR rs n, 0 ≤ m ∧ m < n ∧ (m = 0 ∨ ∃ r, findR rs m = some r)
  | k, n, hk, m, hm => by
    rw [aboveR] at hm
    split at hm
    · rename_i h
      rcases List.mem_cons.mp hm with rfl | hm
      · refine ⟨h.2.1, h.2.2, ?_⟩
        cases e : findR rs n with
        | none =>
          left
          unfold upR
          rw [e]
          rfl
        | some r =>
          rw [(F.up e).1]
          exact F.has _ (findR_mem e)
      · cases k with
        | zero => omega
        | succ k =>
          obtain ⟨h1, h2, h3⟩ := Wf.above_lt F k (upR rs n) (by omega) m hm
          exact ⟨h1, by omega, h3⟩
    · cases hm
/-- what is under one, at any depth: all for 0 -/
def beneathR (rs : Rows) (n : Int) : List Int := (rs.map (·.1)).filter fun m => decide (n ∈ aboveR rs m)
def repliesR (rs : Rows) (n : Int) : List Int := (rs.filter fun p => decide (p.2.under = n)).map (·.1)
def deepI (rs : Rows) (n : Int) : Nat := (aboveR rs n).length - 1
structure Wd where
  rows : Rows
  came : Int
  clock : Int
def sayingM (M : Wd) (d : PyData) : Option (Int × Row) := match d with
  | .int n => if 1 ≤ n ∧ n ≤ M.came then (findR M.rows n).map fun r => (n, r) else none
  | _ => none
def underOk (M : Wd) : PyData → Bool
  | .int n => decide (n = 0) || (decide (1 ≤ n) && decide (n ≤ M.came) && (findR M.rows n).isSome)
  | _ => false
def sayM (M : Wd) (b u t : PyData) : Except Er (Int × Wd) :=
  if nameOk b = false then .error .name else if underOk M u = false then .error .no else if textOk t = false then .error .text else match b, u, t with
  | .str who, .int n, .str text => if 60 ≤ M.rows.length ∨ (n ≠ 0 ∧ 8 ≤ deepI M.rows n + 1) then .error .full
    else .ok (M.came + 1, ⟨M.rows ++ [(M.came + 1, ⟨who, n, text, M.clock, [], false⟩)], M.came + 1, M.clock⟩)
  | _, _, _ => .error .name
def isS : PyData → Str → Bool
  | .str z, w => decide (z = w)
  | _, _ => false
def ownM (M : Wd) (d b : PyData) : Except Er (Int × Row) := match sayingM M d with
  | none => .error .no
  | some (n, r) => if nameOk b = false then .error .name else if isS b r.who = true ∧ r.struck = false then .ok (n, r) else .error .yours
def setR (rs : Rows) (n : Int) (r : Row) : Rows := rs.map fun p => if p.1 = n then (n, r) else p
def changeM (M : Wd) (d b t : PyData) : Except Er Wd := match ownM M d b with
  | .error e => .error e
  | .ok (n, r) => match t with
    | .str z => if textZ z then .ok { M with rows := setR M.rows n { r with text := z } } else .error .text
    | _ => .error .text
def dropR (rs : Rows) (n : Int) : Rows := rs.filter fun p => decide (p.1 ≠ n)
/-- struck ones without anything under them go, from n upwards: what is left, how many went -/
def goneR (rs : Rows) (n : Int) : Rows × Int := match findR rs n with
  | none => (rs, 0)
  | some r => if h : 0 < n ∧ 0 ≤ r.under ∧ r.under < n ∧ r.struck = true ∧ repliesR rs n = [] then let g := goneR (dropR rs n) r.under; (g.1, g.2 + 1) else (rs, 0)
termination_by n.toNat
decreasing_by omega
def strikeM (M : Wd) (d b : PyData) : Except Er (Int × Wd) := match ownM M d b with
  | .error e => .error e
  | .ok (n, r) => .ok ((goneR (setR M.rows n { r with struck := true }) n).2, { M with rows := (goneR (setR M.rows n { r with struck := true }) n).1 })
/-- votes behind a vote -/
def votesM (vs : List (Str × Int)) (who : Str) (way : Int) : List (Str × Int) :=
  let us := vs.filter fun p => decide (p.1 ≠ who)
  if way = 0 then us else us ++ [(who, way)]
def voteM (M : Wd) (d b wy : PyData) : Except Er (Int × Wd) := match sayingM M d with
  | none => .error .no
  | some (n, r) => if nameOk b = false then .error .name else if isCount wy (-1) 1 = false then .error .number else match b, wy with
    | .str who, .int way => if r.who = who ∨ r.struck = true then .error .yours else
      .ok (Row.points { r with votes := votesM r.votes who way }, { M with rows := setR M.rows n { r with votes := votesM r.votes who way } })
    | _, _ => .error .name
def standingM (M : Wd) (who : Str) : Int := ((M.rows.filter fun p => decide (p.2.who = who) && !p.2.struck).map fun p => p.2.points).sum
end Vw
namespace Vw
open PySem PySem.Spec PyProof.Rows L2
/-! ### above and below: the mathematics -/
theorem above_lt {rs : Rows} (F : Wf rs) {n m : Int} (h : m ∈ aboveR rs n) : 0 ≤ m ∧ m < n ∧ (m = 0 ∨ ∃ r, findR rs m = some r) := F.above_lt n.toNat n (Nat.le_refl _) m h
theorem above_trans {rs : Rows} (F : Wf rs) : ∀ (k : Nat) {x c m : Int}, x.toNat ≤ k → c ∈ aboveR rs x → m ∈ aboveR rs c → m ∈ aboveR rs x
  | k, x, c, m, hk, hc, hm => by
    rw [aboveR] at hc
    split at hc
    · rename_i h
      rw [aboveR, dif_pos h]
      rcases List.mem_cons.mp hc with rfl | hc
      · exact List.mem_cons_of_mem _ hm
      · cases k with
        | zero => omega
        | succ k => exact List.mem_cons_of_mem _ (above_trans F k (by omega) hc hm)
    · cases hc
/-- the way up is one: of two on it the lesser one is above the greater one -/
theorem above_one {rs : Rows} (F : Wf rs) : ∀ (k : Nat) {x c1 c2 : Int}, x.toNat ≤ k → (c1 = x ∨ c1 ∈ aboveR rs x) → (c2 = x ∨ c2 ∈ aboveR rs x) → c2 < c1 → c2 ∈ aboveR rs c1
  | k, x, c1, c2, hk, h1, h2, hlt => by
    rcases h1 with rfl | h1
    · rcases h2 with rfl | h2
      · omega
      · exact h2
    · have l1 := above_lt F h1
      rcases h2 with rfl | h2
      · omega
      · rw [aboveR] at h1 h2
        split at h1
        · rename_i h
          rw [dif_pos h] at h2
          cases k with
          | zero => omega
          | succ k => exact above_one F k (x := upR rs x) (by omega) (List.mem_cons.mp h1) (List.mem_cons.mp h2) hlt
        · cases h1
theorem mem_keys {rs : Rows} {n : Int} : n ∈ rs.map (·.1) ↔ ∃ r, (n, r) ∈ rs := by simp
theorem mem_replies {rs : Rows} {c n : Int} : c ∈ repliesR rs n ↔ ∃ r, (c, r) ∈ rs ∧ r.under = n := by
  unfold repliesR
  simp only [List.mem_map, List.mem_filter, decide_eq_true_eq]
  constructor
  · rintro ⟨p, ⟨h1, h2⟩, rfl⟩
    exact ⟨p.2, h1, h2⟩
  · rintro ⟨r, h1, h2⟩
    exact ⟨(c, r), ⟨h1, h2⟩, rfl⟩
theorem mem_beneath {rs : Rows} {m n : Int} : m ∈ beneathR rs n ↔ (∃ r, (m, r) ∈ rs) ∧ n ∈ aboveR rs m := by
  unfold beneathR
  rw [List.mem_filter, mem_keys]
  simp
theorem reply_above {rs : Rows} (F : Wf rs) {c n : Int} (h : c ∈ repliesR rs n) : aboveR rs c = n :: aboveR rs n := by
  obtain ⟨r, h1, h2⟩ := mem_replies.mp h
  rw [F.above (findR_of F.nk h1), h2]
/-- from x up to n there is one right under n -/
theorem above_child {rs : Rows} (F : Wf rs) : ∀ (k : Nat) {x n : Int}, x.toNat ≤ k → (∃ r, findR rs x = some r) → n ∈ aboveR rs x → ∃ c ∈ repliesR rs n, c = x ∨ c ∈ aboveR rs x
  | k, x, n, hk, ⟨r, hr⟩, h => by
    have ab := F.above hr
    obtain ⟨e, p1, p2, p3⟩ := F.up hr
    rw [ab] at h
    rcases List.mem_cons.mp h with rfl | h
    · exact ⟨x, mem_replies.mpr ⟨r, findR_mem hr, rfl⟩, .inl rfl⟩
    · rcases F.has _ (findR_mem hr) with z | ⟨r', hr'⟩
      · have z : r.under = 0 := z
        rw [z, above_zero] at h
        cases h
      · cases k with
        | zero => omega
        | succ k =>
          obtain ⟨c, hc, h'⟩ := above_child F k (x := r.under) (by omega) ⟨r', hr'⟩ h
          refine ⟨c, hc, .inr ?_⟩
          rw [ab]
          rcases h' with rfl | h'
          · exact List.mem_cons_self
          · exact List.mem_cons_of_mem _ h'
theorem nodup_replies {rs : Rows} (nk : (rs.map (·.1)).Nodup) (n : Int) : (repliesR rs n).Nodup := by
  unfold repliesR
  exact nk.sublist (List.Sublist.map _ List.filter_sublist)
theorem nodup_beneath {rs : Rows} (nk : (rs.map (·.1)).Nodup) (n : Int) : (beneathR rs n).Nodup := nk.sublist List.filter_sublist
theorem beneath_step {rs : Rows} (F : Wf rs) (n : Int) : ((repliesR rs n).flatMap fun c => c :: beneathR rs c).Perm (beneathR rs n) := by
  rw [List.perm_ext_iff_of_nodup]
  · intro x
    simp only [List.mem_flatMap, List.mem_cons, mem_beneath]
    constructor
    · rintro ⟨c, hc, rfl | ⟨hx, hcx⟩⟩
      · obtain ⟨r, h1, _⟩ := mem_replies.mp hc
        exact ⟨⟨r, h1⟩, by rw [reply_above F hc]; exact List.mem_cons_self⟩
      · exact ⟨hx, above_trans F _ (Nat.le_refl _) hcx (by rw [reply_above F hc]; exact List.mem_cons_self)⟩
    · rintro ⟨⟨r, hr⟩, h⟩
      obtain ⟨c, hc, h'⟩ := above_child F _ (Nat.le_refl _) ⟨r, findR_of F.nk hr⟩ h
      rcases h' with rfl | h'
      · exact ⟨c, hc, .inl rfl⟩
      · exact ⟨c, hc, .inr ⟨⟨r, hr⟩, h'⟩⟩
  · unfold List.Nodup
    rw [List.pairwise_flatMap]
    constructor
    · intro c hc
      refine List.pairwise_cons.mpr ⟨fun m hm => ?_, nodup_beneath F.nk c⟩
      have := (above_lt F (mem_beneath.mp hm).2).2.1
      omega
    · refine (nodup_replies F.nk n).imp_of_mem fun {a b} ha hb hab x hx y hy => ?_
      rintro rfl
      have sa : a = x ∨ a ∈ aboveR rs x := by
        rcases List.mem_cons.mp hx with h | h
        · exact .inl h.symm
        · exact .inr (mem_beneath.mp h).2
      have sb : b = x ∨ b ∈ aboveR rs x := by
        rcases List.mem_cons.mp hy with h | h
        · exact .inl h.symm
        · exact .inr (mem_beneath.mp h).2
      have ga := reply_above F ha
      have gb := reply_above F hb
      have la : n < a := (above_lt F (show n ∈ aboveR rs a by rw [ga]; exact List.mem_cons_self)).2.1
      have lb : n < b := (above_lt F (show n ∈ aboveR rs b by rw [gb]; exact List.mem_cons_self)).2.1
      rcases Int.lt_trichotomy a b with h | h | h
      · have z := above_one F _ (Nat.le_refl _) sb sa h
        rw [gb] at z
        rcases List.mem_cons.mp z with z | z
        · omega
        · have := (above_lt F z).2.1
          omega
      · exact hab h
      · have z := above_one F _ (Nat.le_refl _) sa sb h
        rw [ga] at z
        rcases List.mem_cons.mp z with z | z
        · omega
        · have := (above_lt F z).2.1
          omega
  · exact nodup_beneath F.nk n
/-- a wood that can be -/
structure Good (M : Wd) : Prop where
  wf : Wf M.rows
  le : ∀ p ∈ M.rows, p.1 ≤ M.came
  dp : ∀ p ∈ M.rows, (aboveR M.rows p.1).length ≤ 8
  len : M.rows.length ≤ 60
theorem Good.dp0 {M : Wd} (G : Good M) {n : Int} (h : n = 0 ∨ ∃ r, findR M.rows n = some r) : (aboveR M.rows n).length ≤ 8 := by
  rcases h with rfl | ⟨r, h⟩
  · rw [above_zero]
    decide
  · exact G.dp _ (findR_mem h)
theorem Wf.find0 {rs : Rows} (F : Wf rs) : findR rs 0 = none := by
  rw [findR_none]
  intro p hp e
  have := F.pos p hp
  omega
/-! ### a row set, a row gone -/
theorem setR_keys (rs : Rows) (n : Int) (r : Row) : (setR rs n r).map (·.1) = rs.map (·.1) := by
  unfold setR
  rw [List.map_map]
  apply List.map_congr_left
  intro p _
  show (if p.1 = n then (n, r) else p).1 = p.1
  split
  · rename_i h
    exact h.symm
  · rfl
theorem findR_setR (rs : Rows) (n m : Int) (r : Row) : findR (setR rs n r) m = if m = n then (findR rs n).map fun _ => r else findR rs m := by
  unfold findR setR
  rw [List.find?_map]
  by_cases h : m = n
  · subst h
    rw [if_pos rfl]
    have : ((fun p : Int × Row => decide (p.1 = m)) ∘ fun p : Int × Row => if p.1 = m then (m, r) else p) = fun p => decide (p.1 = m) := by
      funext p
      show decide ((if p.1 = m then (m, r) else p).1 = m) = decide (p.1 = m)
      by_cases c : p.1 = m <;> simp [c]
    rw [this]
    cases e : List.find? (fun p : Int × Row => decide (p.1 = m)) rs with
    | none => rfl
    | some p =>
      have := List.find?_some e
      simp only [decide_eq_true_eq] at this
      simp [this]
  · rw [if_neg h]
    have : ((fun p : Int × Row => decide (p.1 = m)) ∘ fun p : Int × Row => if p.1 = n then (n, r) else p) = fun p => decide (p.1 = m) := by
      funext p
      show decide ((if p.1 = n then (n, r) else p).1 = m) = decide (p.1 = m)
      by_cases c : p.1 = n
      · have h1 : ¬ n = m := fun z => h z.symm
        have h2 : ¬ p.1 = m := fun z => h (z.symm.trans c)
        simp [c, h1]
      · simp [c]
    rw [this]
    cases e : List.find? (fun p : Int × Row => decide (p.1 = m)) rs with
    | none => rfl
    | some p =>
      have := List.find?_some e
      simp only [decide_eq_true_eq] at this
      have : ¬ p.1 = n := fun z => h (this.symm.trans z)
      simp [this]
theorem findR_set {rs : Rows} (nk : (rs.map (·.1)).Nodup) {n : Int} {r r' : Row} (h : findR rs n = some r) : findR (setR rs n r') n = some r' := by
  rw [findR_setR, if_pos rfl, h]
  rfl
theorem mem_setR {rs : Rows} {n : Int} {r : Row} {p : Int × Row} (h : p ∈ setR rs n r) : (p = (n, r) ∧ ∃ r0, (n, r0) ∈ rs) ∨ (p ∈ rs ∧ p.1 ≠ n) := by
  obtain ⟨q, hq, e⟩ := List.mem_map.mp h
  by_cases c : q.1 = n
  · rw [if_pos c] at e
    refine .inl ⟨e.symm, q.2, ?_⟩
    rw [← c]
    exact hq
  · rw [if_neg c] at e
    subst e
    exact .inr ⟨hq, c⟩
theorem Wf.set {rs : Rows} (F : Wf rs) {n : Int} {r r' : Row} (h : findR rs n = some r) (hu : r'.under = r.under) : Wf (setR rs n r') := by
  have hm := findR_mem h
  refine ⟨by rw [setR_keys]; exact F.nk, fun p hp => ?_, fun p hp => ?_, fun p hp => ?_, fun p hp => ?_⟩
  · rcases mem_setR hp with ⟨rfl, _⟩ | ⟨hp, _⟩
    · have := F.pos _ hm
      exact this
    · exact F.pos _ hp
  · rcases mem_setR hp with ⟨rfl, _⟩ | ⟨hp, _⟩
    · show 0 ≤ r'.under
      rw [hu]
      exact F.u0 _ hm
    · exact F.u0 _ hp
  · rcases mem_setR hp with ⟨rfl, _⟩ | ⟨hp, _⟩
    · show r'.under < n
      rw [hu]
      exact F.ult _ hm
    · exact F.ult _ hp
  · have key : ∀ u : Int, (u = 0 ∨ ∃ z, findR rs u = some z) → (u = 0 ∨ ∃ z, findR (setR rs n r') u = some z) := fun u q => by
      rcases q with q | ⟨z, q⟩
      · exact .inl q
      · right
        rw [findR_setR]
        by_cases c : u = n
        · rw [if_pos c, h]
          exact ⟨_, rfl⟩
        · rw [if_neg c]
          exact ⟨z, q⟩
    rcases mem_setR hp with ⟨rfl, _⟩ | ⟨hp, _⟩
    · apply key
      show r'.under = 0 ∨ _
      rw [hu]
      exact F.has _ hm
    · exact key _ (F.has _ hp)
theorem findR_drop (rs : Rows) (n m : Int) : findR (dropR rs n) m = if m = n then none else findR rs m := by
  by_cases h : m = n
  · rw [if_pos h, findR_none]
    intro p hp e
    have := (List.mem_filter.mp hp).2
    simp only [decide_eq_true_eq] at this
    exact this (e.trans h)
  · rw [if_neg h]
    unfold findR dropR
    rw [List.find?_filter]
    congr 2
    funext p
    by_cases c : p.1 = m
    · have : ¬ p.1 = n := fun z => h (c.symm.trans z)
      simp [c, h]
    · simp [c]
theorem Wf.drop {rs : Rows} (F : Wf rs) {n : Int} (hn : repliesR rs n = []) : Wf (dropR rs n) := by
  have sub : (dropR rs n).Sublist rs := List.filter_sublist
  refine ⟨F.nk.sublist (sub.map _), fun p hp => F.pos p (sub.mem hp), fun p hp => F.u0 p (sub.mem hp), fun p hp => F.ult p (sub.mem hp), fun p hp => ?_⟩
  rcases F.has p (sub.mem hp) with h | ⟨r, h⟩
  · exact .inl h
  · right
    have : ¬ p.2.under = n := fun z => by
      have q : p.1 ∈ repliesR rs n := mem_replies.mpr ⟨p.2, sub.mem hp, z⟩
      rw [hn] at q
      cases q
    rw [findR_drop, if_neg this]
    exact ⟨r, h⟩
end Vw
namespace Vw
open PySem PySem.Spec PyProof.Rows L2
/-! ### texts in order -/
def leL (a b : List Nat) : Bool := !ltCps b a
theorem lt_irrefl : ∀ a : List Nat, ltCps a a = false
  | [] => rfl
  | x :: r => by simp [ltCps, lt_irrefl r]
theorem leL_trans : ∀ {a b c : List Nat}, leL a b = true → leL b c = true → leL a c = true
  | [], _, [], _, _ => rfl
  | [], _, _ :: _, _, _ => rfl
  | x :: a, [], c, h, _ => by simp [leL, ltCps] at h
  | x :: a, y :: b, [], _, h => by simp [leL, ltCps] at h
  | x :: a, y :: b, z :: c, h1, h2 => by
    simp only [leL, ltCps, Bool.not_eq_true', Bool.or_eq_false_iff, Bool.and_eq_false_iff, decide_eq_false_iff_not, beq_eq_false_iff_ne] at h1 h2 ⊢
    refine ⟨by omega, ?_⟩
    by_cases e : z = x
    · right
      have e1 : y = x := by omega
      have e2 : z = y := by omega
      have q1 : ltCps b a = false := h1.2.resolve_left (fun q => q e1)
      have q2 : ltCps c b = false := h2.2.resolve_left (fun q => q e2)
      have := leL_trans (a := a) (b := b) (c := c) (by simp [leL, q1]) (by simp [leL, q2])
      simpa [leL] using this
    · exact .inl e
theorem leL_total : ∀ (a b : List Nat), leL a b = true ∨ leL b a = true
  | [], [] => .inl rfl
  | [], _ :: _ => .inl rfl
  | _ :: _, [] => .inr rfl
  | x :: a, y :: b => by
    simp only [leL, ltCps, Bool.not_eq_true', Bool.or_eq_false_iff, Bool.and_eq_false_iff, decide_eq_false_iff_not, beq_eq_false_iff_ne]
    rcases Nat.lt_trichotomy x y with h | h | h
    · exact .inl ⟨by omega, .inl (by omega)⟩
    · rcases leL_total a b with q | q
      · exact .inl ⟨by omega, .inr (by simpa [leL] using q)⟩
      · exact .inr ⟨by omega, .inr (by simpa [leL] using q)⟩
    · exact .inr ⟨by omega, .inl (by omega)⟩
theorem leL_antisymm : ∀ {a b : List Nat}, leL a b = true → leL b a = true → a = b
  | [], [], _, _ => rfl
  | [], _ :: _, _, h => by simp [leL, ltCps] at h
  | _ :: _, [], h, _ => by simp [leL, ltCps] at h
  | x :: a, y :: b, h1, h2 => by
    simp only [leL, ltCps, Bool.not_eq_true', Bool.or_eq_false_iff, Bool.and_eq_false_iff, decide_eq_false_iff_not, beq_eq_false_iff_ne] at h1 h2
    have e : x = y := by omega
    have q1 : ltCps b a = false := h1.2.resolve_left (fun q => q e.symm)
    have q2 : ltCps a b = false := h2.2.resolve_left (fun q => q e)
    rw [e, leL_antisymm (a := a) (b := b) (by simp [leL, q1]) (by simp [leL, q2])]
def leS (a b : Str) : Bool := leL a.cps.toList b.cps.toList
theorem leS_antisymm {a b : Str} (h1 : leS a b = true) (h2 : leS b a = true) : a = b := by
  have e := leL_antisymm h1 h2
  cases a
  cases b
  congr 1
  exact Array.toList_inj.mp e
theorem rising_pw : ∀ {p : Str} {r : List Str}, risingS p r = true → (p :: r).Pairwise fun a b => leS a b = true
  | p, [], _ => by simp
  | p, x :: r, h => by
    have h : (leS p x && risingS x r) = true := h
    rw [Bool.and_eq_true] at h
    have ih := rising_pw h.2
    refine List.pairwise_cons.mpr ⟨fun y hy => ?_, ih⟩
    rcases List.mem_cons.mp hy with rfl | hy
    · exact h.1
    · exact leL_trans h.1 ((List.pairwise_cons.mp ih).1 y hy)
theorem sorted_pw {l : List Str} (h : sortedS l = true) : l.Pairwise fun a b => leS a b = true := by
  cases l with
  | nil => exact List.Pairwise.nil
  | cons x r => exact rising_pw h
def sortS (l : List Str) : List Str := l.mergeSort leS
theorem sortS_perm (l : List Str) : (sortS l).Perm l := List.mergeSort_perm l _
theorem sortS_eq {a l : List Str} (hp : a.Perm l) (hs : sortedS a = true) : a = sortS l := by
  have pw := List.pairwise_mergeSort (le := leS) (fun a b c h1 h2 => leL_trans h1 h2) (fun a b => by
    rw [Bool.or_eq_true]
    exact leL_total _ _) l
  exact (hp.trans (sortS_perm l).symm).eq_of_pairwise (fun x y _ _ h1 h2 => leS_antisymm h1 h2) (sorted_pw hs) pw
/-! ### lengths -/
theorem str_app_len (a b : Str) : (a ++ b).length = a.length + b.length := by
  show (a.cps ++ b.cps).size = _
  rw [Array.size_append]
  rfl
theorem joinL_len (a : List Nat) : ∀ ys : List (List Nat), (TL.joinL a ys).length ≤ (ys.map List.length).sum + ys.length * a.length
  | [] => Nat.zero_le _
  | [y] => by
    show y.length ≤ (y.length + 0) + 1 * a.length
    omega
  | y :: z :: r => by
    have ih := joinL_len a (z :: r)
    show (y ++ (a ++ TL.joinL a (z :: r))).length ≤ _
    rw [List.length_append, List.length_append]
    simp only [List.map_cons, List.sum_cons, List.length_cons] at ih ⊢
    rw [Nat.succ_mul]
    omega
theorem join_len (a : Str) (ys : List Str) : (Txt.join a ys).length ≤ (ys.map (·.length)).sum + ys.length * a.length := by
  have ea : a = SX.S a.cps.toList := by cases a; simp [SX.S]
  have ey : ys = (ys.map fun y => y.cps.toList).map SX.S := by
    rw [List.map_map]
    conv => lhs; rw [← List.map_id ys]
    refine List.map_congr_left fun y _ => ?_
    cases y
    simp [SX.S]
  have h := joinL_len a.cps.toList (ys.map fun y => y.cps.toList)
  have l1 : (Txt.join a ys).length = (TL.joinL a.cps.toList (ys.map fun y => y.cps.toList)).length := by
    conv => lhs; rw [ea, ey, SX.join_S]
    show (TL.joinL a.cps.toList (ys.map fun y => y.cps.toList)).toArray.size = _
    simp
  rw [l1]
  rw [List.map_map, List.length_map] at h
  have e1 : (ys.map (List.length ∘ fun y => y.cps.toList)) = ys.map (·.length) := List.map_congr_left fun y _ => by
    show y.cps.toList.length = y.cps.size
    simp
  have e2 : a.cps.toList.length = a.length := by
    show a.cps.toList.length = a.cps.size
    simp
  rw [e1, e2] at h
  exact h
theorem sum_len_le {ys : List Str} {b : Nat} (h : ∀ y ∈ ys, y.length ≤ b) : (ys.map (·.length)).sum ≤ ys.length * b := by
  induction ys with
  | nil => simp
  | cons y r ih =>
    have h1 := h y List.mem_cons_self
    have h2 := ih fun z hz => h z (List.mem_cons_of_mem _ hz)
    simp only [List.map_cons, List.sum_cons, List.length_cons, Nat.succ_mul]
    omega
theorem join_len_le {a : Str} {ys : List Str} {b n : Nat} (h : ∀ y ∈ ys, y.length ≤ b) (hn : ys.length ≤ n) : (Txt.join a ys).length ≤ n * b + n * a.length := by
  have h1 := join_len a ys
  have h2 := sum_len_le h
  have h3 : ys.length * b ≤ n * b := Nat.mul_le_mul_right _ hn
  have h4 : ys.length * a.length ≤ n * a.length := Nat.mul_le_mul_right _ hn
  omega
theorem toS_len {i : Int} (h : i.natAbs < 2 ^ 60) : (Str.ofString (toString i)).length ≤ 21 := by
  rw [PySem.ofString_length]
  exact int_text_length_le10 (k := 20) (by decide) (Nat.lt_trans h (by decide))
/-! ### a wood as a text -/
def voteOf (vs : List (Str × Int)) (z : Str) : Int := ((vs.find? fun p => decide (p.1 = z)).map (·.2)).getD 0
def votesT (vs : List (Str × Int)) : Str := if vs = [] then "." else Txt.join "" ((sortS (vs.map (·.1))).map fun z => (if 0 < voteOf vs z then Str.ofString "+" else Str.ofString "-") ++ z)
def rowT (n : Int) (r : Row) : Str := Txt.join " " [Str.ofString (toString n), Str.ofString (toString r.under), Str.ofString (toString r.time), r.who, votesT r.votes] ++ (if r.struck then Str.ofString "" else Str.ofString " " ++ r.text)
def rowTN (M : Wd) (n : Int) : Str := match findR M.rows n with
  | some r => rowT n r
  | none => ""
end Vw
namespace Vw
open PySem PySem.Spec PyProof.Rows L2
/-! ### texts read: the mirror -/
def isFig (c : Nat) : Bool := decide (48 ≤ c) && decide (c ≤ 57)
def numIn (z : Str) : Option Int := if (decide (1 ≤ z.length) && decide (z.length ≤ 9) && z.cps.toList.all isFig) = true then some ((NumText.digitsVal z.cps.toList : Nat) : Int) else none
def isSign (c : Nat) : Bool := decide (c = 43) || decide (c = 45)
def putV (vs : List (Str × Int)) (z : Str) (w : Int) : List (Str × Int) := if z ∈ vs.map (·.1) then vs.map fun p => if p.1 = z then (z, w) else p else vs ++ [(z, w)]
def nameL (r : List Nat) : List Nat := r.takeWhile fun c => !isSign c
/-- the votes that signs tell, behind some -/
def votesL : Nat → List (Str × Int) → List Nat → Except Er (List (Str × Int))
  | _, vs, [] => .ok vs
  | 0, _, _ :: _ => .error .text
  | k + 1, vs, c :: r => if isSign c = false then .error .text else if nameZ ⟨(nameL r).toArray⟩ = false then .error .name else votesL k (putV vs ⟨(nameL r).toArray⟩ (if c = 43 then 1 else -1)) (r.drop (nameL r).length)
def votesR (z : Str) : Except Er (List (Str × Int)) := if z = "." then .ok [] else votesL z.length [] z.cps.toList
def wordAt (ws : List Str) (i : Nat) : Str := (ws[i]?).getD ""
def rowR (who : Str) (u tm : Int) (vs : List (Str × Int)) (t : List Str) : Row := ⟨who, u, Txt.join " " t, tm, vs, decide (t = [])⟩
def hasR (rs : Rows) (n : Int) : Bool := (findR rs n).isSome
def putN (M : Wd) (n u tm : Int) (w3 w4 : Str) (t : List Str) : Except Er Wd :=
  if (decide (u = 0) || hasR M.rows u) = false then .error .text else if (decide (u < n) && !hasR M.rows n) = false then .error .text else if (decide (n ≤ M.came) && decide (tm ≤ M.clock)) = false then .error .text else
  if nameZ w3 = false then .error .name else match votesR w4 with
  | .error e => .error e
  | .ok vs => if w3 ∈ vs.map (·.1) then .error .text else if t ≠ [] ∧ textZ (Txt.join " " t) = false then .error .text else
    if 8 ≤ deepI (M.rows ++ [(n, rowR w3 u tm vs t)]) n then .error .text else .ok ⟨M.rows ++ [(n, rowR w3 u tm vs t)], M.came, M.clock⟩
def putW (M : Wd) : List Str → Except Er Wd
  | w0 :: w1 :: w2 :: w3 :: w4 :: t => match numIn w0, numIn w1, numIn w2 with
    | some n, some u, some tm => putN M n u tm w3 w4 t
    | _, _, _ => .error .text
  | _ => .error .text
theorem putW_none {M : Wd} {w0 w1 w2 w3 w4 : Str} {t : List Str} (h : numIn w0 = none ∨ numIn w1 = none ∨ numIn w2 = none) : putW M (w0 :: w1 :: w2 :: w3 :: w4 :: t) = .error .text := by
  show (match numIn w0, numIn w1, numIn w2 with
    | some n, some u, some tm => putN M n u tm w3 w4 t
    | _, _, _ => .error .text) = _
  generalize numIn w0 = a at h ⊢
  generalize numIn w1 = b at h ⊢
  generalize numIn w2 = c at h ⊢
  cases a <;> cases b <;> cases c <;> first | rfl | (rcases h with h | h | h <;> cases h)
theorem putW_some {M : Wd} {w0 w1 w2 w3 w4 : Str} {t : List Str} {n u tm : Int} (h0 : numIn w0 = some n) (h1 : numIn w1 = some u) (h2 : numIn w2 = some tm) : putW M (w0 :: w1 :: w2 :: w3 :: w4 :: t) = putN M n u tm w3 w4 t := by
  show (match numIn w0, numIn w1, numIn w2 with
    | some n, some u, some tm => putN M n u tm w3 w4 t
    | _, _, _ => .error .text) = _
  rw [h0, h1, h2]
def putM (M : Wd) (row : Str) : Except Er Wd := putW M (Txt.split row " ")
def putsM : Wd → List Str → Except Er Wd
  | M, [] => .ok M
  | M, r :: rs => match putM M r with
    | .error e => .error e
    | .ok M' => putsM M' rs
def filledM (rows : List Str) : Except Er Wd :=
  let ws := Txt.split (wordAt rows 0) " "
  if ws.length ≠ 2 then .error .text else match numIn (wordAt ws 0) with
  | none => .error .text
  | some k => match numIn (wordAt ws 1) with
    | none => .error .text
    | some c => putsM ⟨[], c, k⟩ (rows.drop 1)
theorem votesL_cons (k c : Nat) (r : List Nat) (vs : List (Str × Int)) : votesL (k + 1) vs (c :: r) = if isSign c = false then .error .text else if nameZ ⟨(nameL r).toArray⟩ = false then .error .name else votesL k (putV vs ⟨(nameL r).toArray⟩ (if c = 43 then 1 else -1)) (r.drop (nameL r).length) := rfl
theorem drop_name (r : List Nat) : (r.drop (nameL r).length).length ≤ r.length := by
  rw [List.length_drop]
  omega
theorem votesL_fuel : ∀ {k k' : Nat} {l : List Nat} {vs : List (Str × Int)}, l.length ≤ k → l.length ≤ k' → votesL k vs l = votesL k' vs l
  | k, k', [], vs, _, _ => by cases k <;> cases k' <;> rfl
  | 0, _, _ :: _, _, h, _ => by simp at h
  | _ + 1, 0, _ :: _, _, _, h => by simp at h
  | k + 1, k' + 1, c :: r, vs, h, h' => by
    simp only [List.length_cons] at h h'
    unfold votesL
    have := drop_name r
    split
    · rfl
    · split
      · rfl
      · exact votesL_fuel (by omega) (by omega)
theorem putV_nodup {vs : List (Str × Int)} (nd : (vs.map (·.1)).Nodup) (z : Str) (w : Int) : ((putV vs z w).map (·.1)).Nodup := by
  unfold putV
  split
  · have : (vs.map fun p => if p.1 = z then (z, w) else p).map (·.1) = vs.map (·.1) := by
      rw [List.map_map]
      refine List.map_congr_left fun p _ => ?_
      show (if p.1 = z then (z, w) else p).1 = p.1
      split
      · rename_i h
        exact h.symm
      · rfl
    rw [this]
    exact nd
  · rename_i h
    rw [List.map_append]
    refine List.nodup_append.mpr ⟨nd, by simp, fun a ha b hb e => h ?_⟩
    have : b = z := by simpa using hb
    rw [← this, ← e]
    exact ha
theorem putV_length (vs : List (Str × Int)) (z : Str) (w : Int) : (putV vs z w).length ≤ vs.length + 1 := by
  unfold putV
  split
  · rw [List.length_map]
    omega
  · rw [List.length_append]
    exact Nat.le_refl _
theorem votesL_nodup : ∀ {k : Nat} {l : List Nat} {vs us : List (Str × Int)}, (vs.map (·.1)).Nodup → votesL k vs l = .ok us → (us.map (·.1)).Nodup ∧ us.length ≤ vs.length + l.length
  | k, [], vs, us, nd, h => by
    have h : Except.ok vs = (Except.ok us : Except Er _) := by cases k <;> exact h
    cases h
    exact ⟨nd, by simp⟩
  | 0, _ :: _, _, _, _, h => by cases h
  | k + 1, c :: r, vs, us, nd, h => by
    unfold votesL at h
    split at h
    · cases h
    · split at h
      · cases h
      · obtain ⟨h1, h2⟩ := votesL_nodup (putV_nodup nd _ _) h
        have h3 := putV_length vs ⟨(nameL r).toArray⟩ (if c = 43 then 1 else -1)
        have h4 := drop_name r
        refine ⟨h1, ?_⟩
        rw [List.length_cons]
        omega
theorem votesR_nodup {z : Str} {us : List (Str × Int)} (h : votesR z = .ok us) : (us.map (·.1)).Nodup ∧ us.length ≤ z.length := by
  unfold votesR at h
  split at h
  · cases h
    exact ⟨List.Pairwise.nil, Nat.zero_le _⟩
  · obtain ⟨h1, h2⟩ := votesL_nodup (vs := []) List.Pairwise.nil h
    refine ⟨h1, ?_⟩
    have : z.cps.toList.length = z.length := by show z.cps.toList.length = z.cps.size; simp
    simp only [List.length_nil] at h2
    omega
theorem tw_stop {α : Type} (p : α → Bool) : ∀ (r : List α) {x : α}, r[(r.takeWhile p).length]? = some x → p x = false
  | [], x, h => by simp at h
  | y :: r, x, h => by
    rw [List.takeWhile_cons] at h
    cases c : p y with
    | true =>
      rw [c] at h
      exact tw_stop p r (by simpa using h)
    | false =>
      rw [c] at h
      have : y = x := by simpa using h
      rw [← this]
      exact c
theorem tw_in {α : Type} (p : α → Bool) : ∀ (r : List α) {j : Nat} {x : α}, j < (r.takeWhile p).length → r[j]? = some x → p x = true
  | [], j, x, h, _ => by simp at h
  | y :: r, j, x, h, e => by
    rw [List.takeWhile_cons] at h
    cases c : p y with
    | true =>
      rw [c] at h
      cases j with
      | zero =>
        have : y = x := by simpa using e
        rw [← this]
        exact c
      | succ j => exact tw_in p r (j := j) (by simpa using h) (by simpa using e)
    | false =>
      rw [c] at h
      simp at h
theorem tw_take {α : Type} (p : α → Bool) : ∀ r : List α, r.take (r.takeWhile p).length = r.takeWhile p
  | [] => rfl
  | y :: r => by
    rw [List.takeWhile_cons]
    cases p y with
    | true =>
      simp only [if_true, List.length_cons, List.take_succ_cons]
      rw [tw_take p r]
    | false => simp
theorem name_le (r : List Nat) : (nameL r).length ≤ r.length := by
  have := congrArg List.length (tw_take (fun c => !isSign c) r)
  rw [List.length_take] at this
  unfold nameL
  omega
theorem cut_name (c : Nat) (r : List Nat) : cutS ⟨(c :: r).toArray⟩ (some 1) (some ((1 + (nameL r).length : Nat) : Int)) = ⟨(nameL r).toArray⟩ := by
  have h := name_le r
  unfold cutS
  have e1 : (⟨(c :: r).toArray⟩ : Str).length = r.length + 1 := by show (c :: r).toArray.size = _; simp
  have e2 : HT.sIx (r.length + 1) 0 (some 1) = 1 := by
    have := HT.sIx_nat (r.length + 1) 0 1
    rw [Nat.min_eq_left (by omega)] at this
    exact this
  rw [e1, e2, HT.sIx_nat, Nat.min_eq_left (by omega), show 1 + (nameL r).length - 1 = (nameL r).length by omega]
  show (⟨((r).take (nameL r).length).toArray⟩ : Str) = _
  unfold nameL
  rw [tw_take]
theorem cut_rest (c : Nat) (r : List Nat) : cutS ⟨(c :: r).toArray⟩ (some ((1 + (nameL r).length : Nat) : Int)) none = ⟨(r.drop (nameL r).length).toArray⟩ := by
  have h := name_le r
  unfold cutS
  have e1 : (⟨(c :: r).toArray⟩ : Str).length = r.length + 1 := by show (c :: r).toArray.size = _; simp
  rw [e1, HT.sIx_none, HT.sIx_nat, Nat.min_eq_left (by omega)]
  show (⟨((((c :: r).drop (1 + (nameL r).length)).take (r.length + 1 - (1 + (nameL r).length)))).toArray⟩ : Str) = _
  rw [show 1 + (nameL r).length = (nameL r).length + 1 by omega, List.drop_succ_cons, List.take_of_length_le]
  rw [List.length_drop]
  omega
theorem putK_votes (vs : List (Str × Int)) (z : Str) (w : Int) : putK (vs.map fun p : Str × Int => ((Sum.inr p.1, V.int p.2) : Key × V)) (Sum.inr z) (V.int w) = (putV vs z w).map fun p : Str × Int => ((Sum.inr p.1, V.int p.2) : Key × V) := by
  unfold putK putV
  have e : ((vs.map fun p : Str × Int => ((Sum.inr p.1, V.int p.2) : Key × V)).any fun kv => decide (kv.1 = Sum.inr z)) = decide (z ∈ vs.map (·.1)) := by
    rw [List.any_map]
    by_cases h : z ∈ vs.map (·.1)
    · rw [decide_eq_true h]
      obtain ⟨p, hp, ep⟩ := List.mem_map.mp h
      refine List.any_eq_true.mpr ⟨p, hp, ?_⟩
      show decide ((Sum.inr p.1 : Key) = Sum.inr z) = true
      rw [show p.1 = z from ep]
      exact decide_eq_true rfl
    · rw [decide_eq_false h]
      refine List.any_eq_false.mpr fun p hp q => h (List.mem_map.mpr ⟨p, hp, ?_⟩)
      have q := of_decide_eq_true q
      exact Sum.inr.inj q
  rw [e]
  by_cases h : z ∈ vs.map (·.1)
  · rw [decide_eq_true h, if_pos rfl, if_pos h, List.map_map, List.map_map]
    refine List.map_congr_left fun p _ => ?_
    show (if (Sum.inr p.1 : Key) = Sum.inr z then ((Sum.inr p.1 : Key), V.int w) else (Sum.inr p.1, V.int p.2)) = _
    by_cases c : p.1 = z
    · show _ = ((fun p : Str × Int => ((Sum.inr p.1, V.int p.2) : Key × V)) (if p.1 = z then (z, w) else p))
      rw [if_pos (by rw [c]), if_pos c, c]
    · show _ = ((fun p : Str × Int => ((Sum.inr p.1, V.int p.2) : Key × V)) (if p.1 = z then (z, w) else p))
      rw [if_neg (fun q => c (Sum.inr.inj q)), if_neg c]
  · rw [decide_eq_false h, if_neg (by decide), if_neg h, List.map_append]
    rfl
theorem joinL_len_eq (a : List Nat) : ∀ ys : List (List Nat), ys ≠ [] → (TL.joinL a ys).length = (ys.map List.length).sum + (ys.length - 1) * a.length
  | [], h => absurd rfl h
  | [y], _ => by
    show y.length = (y.length + 0) + 0 * a.length
    omega
  | y :: z :: r, _ => by
    have ih := joinL_len_eq a (z :: r) (by simp)
    show (y ++ (a ++ TL.joinL a (z :: r))).length = _
    rw [List.length_append, List.length_append, ih]
    simp only [List.map_cons, List.sum_cons, List.length_cons]
    rw [show r.length + 1 + 1 - 1 = r.length + 1 by omega, show r.length + 1 - 1 = r.length by omega, Nat.succ_mul]
    omega
theorem join_len_eq {a : Str} {ys : List Str} (h : ys ≠ []) : (Txt.join a ys).length = (ys.map (·.length)).sum + (ys.length - 1) * a.length := by
  have ea : a = SX.S a.cps.toList := by cases a; simp [SX.S]
  have ey : ys = (ys.map fun y => y.cps.toList).map SX.S := by
    rw [List.map_map]
    conv => lhs; rw [← List.map_id ys]
    refine List.map_congr_left fun y _ => ?_
    cases y
    simp [SX.S]
  have l1 : (Txt.join a ys).length = (TL.joinL a.cps.toList (ys.map fun y => y.cps.toList)).length := by
    conv => lhs; rw [ea, ey, SX.join_S]
    show (TL.joinL a.cps.toList (ys.map fun y => y.cps.toList)).toArray.size = _
    simp
  rw [l1, joinL_len_eq _ _ (by simpa using h), List.map_map, List.length_map]
  have e1 : (ys.map (List.length ∘ fun y => y.cps.toList)) = ys.map (·.length) := List.map_congr_left fun y _ => by
    show y.cps.toList.length = y.cps.size
    simp
  have e2 : a.cps.toList.length = a.length := by
    show a.cps.toList.length = a.cps.size
    simp
  rw [e1, e2]
theorem split_back (x y : Str) : Txt.join y (Txt.split x y) = x := (TL.join_eq y _).trans (StrLaws.join_split x y)
theorem split_sum (x y : Str) : ((Txt.split x y).map (·.length)).sum + ((Txt.split x y).length - 1) * y.length = x.length := by
  have h : Txt.split x y ≠ [] := fun z => by
    have := split_pos x y
    rw [z] at this
    simp at this
  have := join_len_eq (a := y) h
  rw [split_back] at this
  exact this.symm
theorem len_le_sum : ∀ {l : List Str} {x : Str}, x ∈ l → x.length ≤ (l.map (·.length)).sum
  | y :: l, x, h => by
    rw [List.map_cons, List.sum_cons]
    rcases List.mem_cons.mp h with rfl | h
    · omega
    · have := len_le_sum h
      omega
theorem split_len {x y z : Str} (h : z ∈ Txt.split x y) : z.length ≤ x.length := by
  have h1 := len_le_sum h
  have h2 := split_sum x y
  omega
end Vw
namespace Vw
open PySem PySem.Spec PyProof.Rows L2 HotX
/-! ### lists walked while an exception is handled -/
section
variable {prog : Program} {w : World} {A : Around} {E : Value → Shared → Prop} {s : Shared}
theorem list_end_hot {it l x1 : Addr} {i : Nat} {items : Array Value} {Q : Option Value → Shared → Prop} (hot : HotAt A x1 s.heap) (hne : x1 ≠ it) (hit : s.heap.IsListIter it l i) (hl : s.heap.IsList l items) (hx : items[i]? = none)
    (hQ : ∀ h', (∀ b o, b ≠ it → s.heap.get? b = some o → h'.get? b = some o) → Q none { s with heap := h' }) : wpAny (model prog w) A (pyNext (.ref it)) Q E s := by
  have ty := hit.typeIs
  obtain ⟨oi, gi, ci, di⟩ := hit
  obtain ⟨ol, gl, cl, n, dl⟩ := hl
  obtain ⟨hh, o1, v1, g1, d1, c1⟩ := hot
  unfold pyNext
  refine wpAny_bind (wpAny_attempt (wpAny_callSpecial?_slot (name := Str.ofString "__next__") ty slot_listiter_next (wpAny_call_entry slot_listiter_next ty entry_listiter_next ?_ (args_listiter_next _))))
  show wpAny (model prog w) _ (field (Value.ref it) 0 >>= _) _ _ _
  refine wpAny_bind (wpAny_field gi di (x := Value.ref l) rfl ?_)
  have nn : ¬ ((Value.ref l == Value.none) = true) := by
    intro z
    exact Bool.noConfusion z
  show wpAny (model prog w) _ (ite ((Value.ref l == Value.none) = true) _ _) _ _ _
  rw [if_neg nn]
  show wpAny (model prog w) _ (field (Value.ref it) 1 >>= _) _ _ _
  refine wpAny_bind (wpAny_field gi di (x := Value.int i 0) rfl ?_)
  show wpAny (model prog w) _ (seqItems? (Value.ref l) >>= _) _ _ _
  refine wpAny_bind (wpAny_seqItems gl dl ?_)
  simp only [hx, Int.toNat_natCast]
  refine wpAny_bind (wpAny_rule (wpAny_bind (wpAny_setField gi di (by simp) ?_)))
  show wpAny (model prog w) _ (newExc (Value.type "StopIteration") [] >>= _) _ _ _
  refine wpAny_bind ?_
  simp only [newTuple, newExc]
  refine wpAny_bind (wpAny_newObj_type (hd := by size_fits) ?_)
  refine wpAny_bind (m := firstArgMember _ _) (wpAny_of_eq (a := Value.none) (by first | rfl | (simp only [firstArgMember]; rfl)) (wpAny_newObj_type (hd := by size_fits) ?_))
  have g1' : (s.heap.update it (Obj.mapFields (·.setIfInBounds 0 Value.none))).get? x1 = some o1 := (Heap.get?_update_other _ _ (Ne.symm hne)).trans g1
  refine raiseNew_hot ⟨hh, o1, v1, Heap.get?_push_of_some _ (Heap.get?_push_of_some _ g1'), d1, c1⟩ (Nat.ne_of_lt (Heap.lt_size (Heap.get?_push_of_some _ g1'))) (Heap.get?_push_size _ rfl) rfl (by first | (simp; done) | (simp; omega)) ?_
  refine wpAny_bind (wpAny_isInstance (T := "StopIteration") (b := true) ⟨_, Heap.get?_update_self _ (Heap.get?_push_size _ rfl) rfl, rfl⟩ isSubtype_stop (wpAny_pure (hQ _ fun b o hb e => ?_)))
  have e' : (s.heap.update it (Obj.mapFields (·.setIfInBounds 0 Value.none))).get? b = some o := (Heap.get?_update_other _ _ (Ne.symm hb)).trans e
  exact (Heap.get?_update_other _ _ (Nat.ne_of_gt (Heap.lt_size (Heap.get?_push_of_some _ e')))).trans (Heap.get?_push_of_some _ (Heap.get?_push_of_some _ e'))
end
/-- the walk over a list, the handled exception at x1 beside it -/
theorem walks_hot {prog : Program} {w : World} {A : Around} {x1 : Addr} {o1 : Obj} {v1 : Array Value} (hh : A.handled = some (.ref x1)) (d1 : o1.data = .fields v1) (c1 : v1[2]? = some .none) (I ax : Addr) (hne : ax ≠ I) (hx : x1 ≠ I) (items : Array Value) :
    Walks prog w A I [I, ax, x1] [I] items.size (fun i v => items[i]? = some v) (fun i h => h.IsListIter I ax i ∧ h.IsList ax items ∧ h.get? x1 = some o1) where
  sub := fun b hb => by
    have e : b = I := by simpa using hb
    simp [e]
  frame := fun i h h' st k => ⟨st.1.at fun o e => k I (by simp) o e, st.2.1.at fun o e => k ax (by simp) o e, k x1 (by simp) o1 st.2.2⟩
  item := fun i s Q E hi st hQ => by
    have hg : items[i]? = some items[i] := by simp [hi]
    refine wpAny_pyNext_list_item st.1 st.2.1 (x := items[i]) hg fun h' it' sb => ?_
    exact hQ _ h' s.toks hg ⟨it', st.2.1.extBut sb.extBut hne, sb.extBut x1 o1 hx st.2.2⟩ fun b o hb e => sb.extBut b o (fun z => hb (by simp [z])) e
  done := fun s Q E st hQ => list_end_hot ⟨hh, o1, v1, st.2.2, d1, c1⟩ hx st.1 st.2.1 (by simp) fun h' k => hQ h' s.toks fun b o hb e => k b o (fun z => hb (by simp [z])) e
  self := fun i s Q E st hQ => wpAny_pyIter_listiter st.1 hQ
/-- its iterator, new -/
theorem iter_hot {prog : Program} {w : World} {A : Around} {E : Value → Shared → Prop} {s : Shared} {l x1 : Addr} {items : Array Value} {o1 : Obj} {Q : Value → Shared → Prop} (hl : s.heap.IsList l items) (g1 : s.heap.get? x1 = some o1)
    (h : ∀ s2 : Shared, s2 = { s with heap := s.heap.push { cls := .type "list_iterator", data := .fields #[.ref l, .int 0 0] } } → (s2.heap.IsListIter s.heap.objs.size l 0 ∧ s2.heap.IsList l items ∧ s2.heap.get? x1 = some o1) →
      (∀ b ∈ [s.heap.objs.size, l, x1], b < s2.heap.objs.size) → l ≠ s.heap.objs.size → x1 ≠ s.heap.objs.size → Q (.ref s.heap.objs.size) s2) : wpAny (model prog w) A (pyIter (.ref l)) Q E s := by
  have l1 : l < s.heap.objs.size := by
    obtain ⟨_, e, _⟩ := id hl
    exact Heap.lt_size e
  have l2 : x1 < s.heap.objs.size := Heap.lt_size g1
  refine wpAny_pyIter_list hl (h _ rfl ⟨⟨_, Heap.get?_push_size _ rfl, rfl, rfl⟩, hl.push _, Heap.get?_push_of_some _ g1⟩ (fun b hb => ?_) (Nat.ne_of_lt l1) (Nat.ne_of_lt l2))
  have e : b = s.heap.objs.size ∨ b = l ∨ b = x1 := by simpa using hb
  show b < (s.heap.push _).objs.size
  rw [Heap.size_push]
  rcases e with e | e | e
  · rw [e]
    exact Nat.lt_succ_self _
  · rw [e]
    exact Nat.lt_succ_of_lt l1
  · rw [e]
    exact Nat.lt_succ_of_lt l2
/-- sum of a list of ints, while an exception is handled -/
theorem sum_hot {prog : Program} {w : World} {A : Around} {E : Value → Shared → Prop} {s : Shared} {a x1 : Addr} {its : List Value} {ns : List Int} {o1 : Obj} {v1 : Array Value} {Q : Value → Shared → Prop} (hh : A.handled = some (.ref x1)) (g1 : s.heap.get? x1 = some o1)
    (d1 : o1.data = .fields v1) (c1 : v1[2]? = some .none) (hl : s.heap.IsList a its.toArray) (hi : IntsAre its ns) (h : ∀ h' tk t', (∀ b o, s.heap.get? b = some o → h'.get? b = some o) → Q (.int ns.sum t') { s with heap := h', toks := tk }) :
    wpAny (model prog w) A (call (.builtin "sum") [.ref a]) Q E s := by
  obtain ⟨xs, e⟩ := hi.allInts.items
  have en := hi.numsOf
  rw [show its = its.toArray.toList from rfl, e, nums_intItems] at en
  rw [e] at hl
  refine call_sum_walkG (iter_hot hl g1 fun s2 e2 st lt n1 n2 => ?_)
  subst e2
  refine ⟨_, _, _, _, _, _, numAt xs, rfl, walks_hot (A := A.in1) hh d1 c1 _ a n1 n2 (intItems xs), st, lt, fun i v => intItems_at, fun h' tk t' k => ?_⟩
  have es : preSum (numAt xs) (intItems xs).size = ns.sum := by
    rw [preSum_eq, List.take_of_length_le (by simp [intItems]), en]
  rw [es]
  exact h h' tk t' fun b o e => k b o (fun z => Nat.lt_irrefl _ (Nat.lt_of_lt_of_eq (Heap.lt_size e) (List.mem_singleton.mp z).symm)) (Heap.get?_push_of_some _ e)
section
variable {X : Cx}
/-- sum([int(x) for x in flags]), while an exception is handled -/
def n01 (b : Bool) : Int := if b = true then 1 else 0
def tSumF (K : PySem.W.Frag) (ta : TE) : TE := fun σ H Q => ta σ H fun v H1 => ∃ (a : Addr) (bs : List Bool), v = .ref a ∧ SqL K H1 a (bs.map .bl) ∧ Q (.int (bs.map n01).sum) H1
theorem paired_flags : ∀ {bs : List Bool} {us ys : List Value}, Vals (bs.map V.bl) us → Paired (fun (u y : Value) => ∃ b t, u = Value.bool b ∧ y = Value.int (n01 b) t) us ys → Vals ((bs.map n01).map V.int) ys
  | [], _, _, .nil, .nil => .nil
  | b :: bs, _, _, .cons r rs, .cons f fs => by
    obtain ⟨c, t, e1, e2⟩ := f
    have r : _ = Value.bool b := r
    rw [e1] at r
    cases r
    exact .cons ⟨t, e2⟩ (paired_flags rs fs)
theorem pe_sumflags {x : Str} {iter : Expr} {ta : TE} {q0 pos0 q px px2 cp pos : Pos} {scope : Scope} (c : L2H.HotC X) (hi : PE X iter ta) (hsum : X.mg "sum" = none) (hm : X.mg "int" = none) (hg : Gl X "sum")
    (hfree : ∀ y ∈ scope.names, y.2 ≠ .free) (hcell : ∀ y ∈ scope.names, y.2 ≠ .cell) (hkind : scope.kind = .function) (hnames : ∀ y ∈ scope.names, y.2 = .local → scope.names.lookup y.1 = some .local) (hx : scope.names.lookup x = some .local)
    (hgl : (relabel scope X.env).names.lookup ("int" : Str) = some NameKind.globalImplicit) (hd : (x == ("__debug__" : Str)) = false := by decide) (hs : ∀ x, foldedSetIterable iter X.env x = pure x := by intro _; rfl) :
    PE X (.Call (.Name "sum" q0) [.ListComp (.Call (.Name "int" q) [.Name x px2] [] cp) [⟨.Name x px, iter, [], 0⟩] scope pos] [] pos0) (tSumF X.K ta) := by
  refine ⟨fun pins s σ H Q I h => ?_⟩
  obtain ⟨p, ⟨hh, v1, d1, c1⟩, hp⟩ := c
  refine wpAny_Call_Name_kw (ld_blt I hg hsum (by decide +kernel : bootBuiltins "sum" = some (.builtin "sum")) (PyProof.Rows.callWith_builtin1 (Calls.spliced_cons ?_) rfl rfl))
  refine wpAny_ListComp_free (fun _ => true) (fun u y => ∃ b t, u = Value.bool b ∧ y = Value.int (n01 b) t) (closure_ok fun y hy e => absurd e (hfree y hy)) hcell hkind hnames hx (thn (hi.run pins s σ H _ I h) fun u s1 h1 => ?_) hs
  obtain ⟨v, H1, I1, r, a, bs, rfl, hq, q1⟩ := h1
  obtain rfl : u = Value.ref a := r
  obtain ⟨its, rv, hl, hz⟩ := I1.list hq
  have g1 := (I1.pin p (List.mem_append_left _ hp)).1
  refine iter_hot hl.isList g1 fun s2 e2 st lt n1 n2 => ?_
  subst e2
  have len := rv.length
  rw [List.length_map] at len hz
  have old : ∀ {h' : Heap}, (∀ b o, b ∉ [s1.heap.objs.size] → (s1.heap.push { cls := .type "list_iterator", data := .fields #[.ref a, .int 0 0] }).get? b = some o → h'.get? b = some o) → ∀ b o, s1.heap.get? b = some o → h'.get? b = some o := fun k b o e =>
    k b o (fun z => Nat.lt_irrefl _ (Nat.lt_of_lt_of_eq (Heap.lt_size e) (List.mem_singleton.mp z).symm)) (Heap.get?_push_of_some _ e)
  refine ⟨_, _, _, _, _, _, rfl, walks_hot hh d1 c1 _ a n1 n2 its.toArray, by simp; omega, st, lt, ⟨fun C i v s3 m3 E' _ _ _ _ _ _ => ?_, fun C i v s3 m3 E' _ hP _ hn hv k _ => ?_⟩, fun D h' tk ys vs hD hL hPl hlen hP hF k => ?_⟩
  · exact wpAny_pure ⟨rfl, s3.heap, s3.toks, rfl, fun _ _ e => e⟩
  · obtain ⟨b, hb⟩ : ∃ b, v = Value.bool b := by
      have hP : its.toArray[i]? = some v := hP
      rw [List.getElem?_toArray] at hP
      obtain ⟨hi, e⟩ := List.getElem?_eq_some_iff.mp hP
      have hi' : i < bs.length := by omega
      obtain ⟨u, eu, ru⟩ := Vals.get rv (i := i) (x := V.bl bs[i]) (by rw [List.getElem?_map, List.getElem?_eq_getElem hi']; rfl)
      rw [hP] at eu
      cases eu
      exact ⟨_, ru⟩
    subst hb
    have ks := old k
    have kb : ∀ b o, X.base.get? b = some o → s3.heap.get? b = some o := fun b o e => ks b o (I1.bk b o e)
    obtain ⟨mb, b1, b2⟩ := I1.mod.blt
    have hkd : (compEnvC scope (cloFrom X.env.cells scope.names []) C X.env).scope.kind = .function := hkind
    refine Call_ (Calls.Name_function_global hkd hgl (Calls.loadGlobal_builtin (mg := X.mg) (mb := mb) (by show s3.heap.Ns X.env.globals _; rw [I1.ok.glob]; exact I1.mod.glob.keeps kb) hm (by show s3.heap.Ns X.env.builtins _; rw [I1.ok.blt]; exact b1.keeps kb)
      ((b2 "int" (by decide)).trans (by decide +kernel : bootBuiltins "int" = some (.type "int"))) (PyProof.Rows.callWith_type1 ?_ rfl rfl)) (by decide))
    refine Calls.spliced_cons (wpAny_Name (wpAny_loadName_local hkd (lookup_relabel_local hx) hn hv (Calls.spliced_nil (call_int_bool ?_))) hd)
    exact ⟨⟨b, s3.toks, rfl, rfl⟩, s3.heap, _, rfl, fun _ _ e => e⟩
  · have ks := old k
    have hF : Paired (fun u y => ∃ b t, u = Value.bool b ∧ y = Value.int (n01 b) t) (vs.filter fun _ => true) ys.toList := hF
    have ev : vs = its := by
      refine List.ext_getElem? fun j => ?_
      by_cases hj : j < vs.length
      · have e := hP j vs[j] (by simp [hj])
        rw [List.getElem?_toArray] at e
        rw [e]
        simp [hj]
      · rw [List.getElem?_eq_none (by omega), List.getElem?_eq_none (by simp at hlen; omega)]
    have e1 : vs.filter (fun _ => true) = vs := by simp
    rw [e1, ev] at hF
    have rel := paired_flags rv hF
    refine Calls.spliced_nil (sum_hot hh (ks _ _ g1) d1 c1 (its := ys.toList) (by simpa using hL) rel.ints fun h2 tk2 t2 k2 => ?_)
    exact ⟨.int _, H1, I1.kept (h' := h2) (t' := tk2) fun b o e => k2 b o (ks b o e), ⟨_, rfl⟩, q1⟩
end
end Vw
namespace Vw
open PySem PySem.Spec PyProof.Rows L2 HotX
/-! ### a def called in an except suite with the handled exception as an argument -/
section
variable {P : Program} {w : World} {K : PySem.W.Frag} {mg : Str → Option Value} {base : Heap}
theorem hot_run {CX : CXT} {x qual : Str} {st : Stmt} {f : Addr} {N ps : List Str} {k : Nat} {fd : FuncData} {A : Around} {outer : List Env} {s : Shared} {H : Hp} {us : List Value} {vs : List V} {Q : VK} {E : XK} {p : Addr × Obj}
    (F : FunD K x qual (defArgs st) (defBody st) (defScope st) [] [] f fd) (S : FnScope N ps (defScope st)) (hb : BindEq x qual st ps) (hr : L2H.RoomH (k + 1) A) (hp : L2H.PinOk outer H s p) (e0 : Env0 P w K mg base A outer s H) (r : Vals vs us) (hl : vs.length = ps.length)
    (body : ∀ cdv : Value, L2H.RoomH k (A.deeper (envOfC qual (defScope st) s.heap.objs.size f cdv)) → ∃ t, PSs (L2H.cxH CX P w K mg base N qual (defScope st) f cdv A outer s H E p) (defBody st) t ∧ t { nx := fun _ H' => Q .non H', rt := Q } (L2.start N vs) H) :
    codeAny (model P w) A (.call (.ref f) ⟨us, []⟩) (CR CX outer P w H s Q E) s := by
  have KX : K.In s.heap := e0.mod.kin.keeps fun b o e => (e0.bs b o e).1
  have BT := F.bindsN hb s us KX (by rw [List.append_nil, ← r.length]; exact hl)
  rw [List.append_nil] at BT
  obtain ⟨oc, od, dV, kV, doc, pm, an, cdv, ct, osl, rfl, lk, hcd, _, _⟩ := F.ex
  obtain ⟨t, ht, hq⟩ := body cdv (hr.deeper _)
  have lim := e0.mod.nolimit.keeps fun b o e => (e0.bs b o e).1
  have kinds : ∀ y ∈ ps.zip us, (defScope st).names.lookup y.1 = some .local ∨ ((defScope st).names.lookup y.1 = some .cell ∧ ((cellsFrom (s.heap.objs.size + 1) (defScope st).names []).lookup y.1).isSome = true) := fun y hy =>
    (S.par y.1 (List.of_mem_zip (a := y.1) (b := y.2) hy).1).elim .inl fun c => .inr ⟨c, PySem.W.cellsFrom_some _ _ _ (.inl c)⟩
  refine codeAny_call_function hr.depth (KX _ _ lk) rfl S.co S.gen rfl (PySem.W.codeRec_of KX hcd) (BT _ _ _ _ (wpAny_newFunctionEnv_cells S.kind kinds fun env he s1 x1 => ?_))
  subst he
  refine ⟨lim.keeps x1.toInCall.keep, codeAny_func (wpAny_mono (ht.run [] s1 (L2.start N vs) H _ (L2H.inv_startH S hp e0 hl r x1) hq) (fun fl s' h' => ?_) fun _ _ z => z)⟩
  cases fl with
  | brk => exact h'.elim fun _ z => z.elim fun _ z => False.elim z.2
  | cont => exact h'.elim fun _ z => z.elim fun _ z => False.elim z.2
  | next =>
    obtain ⟨σ', H', J, z⟩ := h'
    exact ⟨V.non, H', J.os, J.bare, J.base, J.hok, rfl, z⟩
  | ret u =>
    obtain ⟨v, σ', H', J, rv, z⟩ := h'
    exact ⟨v, H', J.os, J.bare, J.base, J.hok, rv, z⟩
/-- x(e), e the handled exception at slot i; what it promises is told by sp -/
def HotSp := Addr × Obj → Hp → VK → Prop
def HotFn (P : Program) (w : World) (K : PySem.W.Frag) (mg : Str → Option Value) (base : Heap) (k : Nat) (f : Addr) (sp : HotSp) : Prop :=
  ∀ (A : Around) (outer : List Env) (s : Shared) (H : Hp) (Q : VK) (p : Addr × Obj), L2H.RoomH k A → L2H.Hot1 A p → L2H.PinOk outer H s p → Env0 P w K mg base A outer s H → sp p H Q → codeAny (model P w) A (.call (.ref f) ⟨[.ref p.1], []⟩) (CR (L2N.CX P w) outer P w H s Q E0) s
theorem pe_hot {X : Cx} {f : Addr} {x y : Str} {k i : Nat} {sp : HotSp} {p : Addr × Obj} {q q2 pos : Pos} (F : HotFn X.prog X.w X.K X.mg X.base k f sp) (hr : L2H.RoomH k X.A) (hot : L2H.Hot1 X.A p) (hp : p ∈ X.pn) (hm : X.mg x = some (.ref f)) (hk : PySem.W.keepIn X.K (.ref f) = true) (hN : X.N[i]? = some y) (hv : Vis X.env.scope y)
    (hg : Gl X x := by rfl) (hdb : (x == ("__debug__" : Str)) = false := by decide) (hd : (y == ("__debug__" : Str)) = false := by decide) (hcd : (y == ("__classdict__" : Str)) = false := by decide) :
    PE X (.Call (.Name x q) [.Name y q2] [] pos) (fun σ H Q => σ[i]? = some (some (.ref p.1)) ∧ sp p H Q) := by
  refine ⟨fun pins s σ H Q I h => ?_⟩
  obtain ⟨hi, h⟩ := h
  have ha : PA X [.Name y q2] (tCons (tVar i) tNil) := pa_cons (pe_var hN hv hd hcd) pa_nil
  refine wpAny_Call_Name_kw (ld_glob I hg hm (PySem.W.callWith_K (h₀ := X.base) I.ok.mod.kin hk (thn (ha.run pos pins s σ H (fun vs H1 => vs = [.ref p.1] ∧ H1 = H) I ⟨_, hi, rfl, rfl⟩) fun us s1 h1 => ?_) rfl rfl) hdb)
  obtain ⟨vs, H1, I1, r, rfl, rfl⟩ := h1
  refine ⟨I1.kIn, ?_⟩
  cases r with
  | cons r1 r2 =>
    cases r2
    cases r1
    have pn := I1.pin p (List.mem_append_left _ hp)
    have po : L2H.PinOk X.stack H1 s1 p := ⟨pn.1, pn.2.1, fun z => (List.mem_cons.mp (I1.stkSub p.1 z)).elim pn.2.2.1 pn.2.2.2.1, pn.2.2.2.2⟩
    refine wpAny_call (codeAny_mono (F X.A X.stack s1 H1 Q p hr hot po I1.env0 h) fun res s2 hq => ?_)
    match res, hq with
    | .ok (.ret u), hq => exact I1.after hq
    | .error e, hq => exact passF pins σ H1 s1 e s2 I1 hq
/-- isinstance(e, c), e the exception at the pin -/
theorem cr_isP {X : Cx} {D : Addr} {p : Addr × Obj} (C : ExcC X.K D) (hp : p ∈ X.pn) (h1 : p.2.cls = .ref D) (h2 : p.2.dict = none) (hf : ∃ vs, p.2.data = .fields vs) : CallR X (.builtin "isinstance") (rIsE X.K D p.1) := by
  intro pins s σ H xs us Q I r h
  obtain ⟨c, cv, b, rfl, hc, e, q⟩ := h
  match us, r with
  | [_, u2], .cons r1 (.cons r2 .nil) =>
    obtain rfl := hc _ r2
    obtain rfl : _ = Value.ref p.1 := r1
    have get := (I.pin p (List.mem_append_left _ hp)).1
    obtain ⟨vs, hd⟩ := hf
    have J : PySem.W.InstAt s.heap p.1 p.2 D none := by
      generalize p.2 = o at *
      cases o
      dsimp only at h1 h2 hd
      subst h1 h2 hd
      exact ⟨get, rfl, rfl, trivial⟩
    exact PySem.W.kia_one (PySem.W.handS_kitx_exc C.hg C.hk C.hs C.hd C.ha C.hn C.ht C.hm) I.kIn J e (fun z => nomatch z) fun tk => ⟨.bl b, H, I.kept (t' := tk) fun _ _ z => z, rfl, q⟩
end
end Vw
namespace Vw
open PySem PySem.Spec PyProof.Rows L2 HotX
/-! ### lambdas without parameters; exceptions whose context is None -/
def lamN (X : Cx) (A : Around) (outer : List Env) (s : Shared) (H : Hp) (E : XK) (scope : Scope) (f c : Addr) : Cx :=
  (LamX.lamCx X A outer s H E scope f c).tr [] fun e s' => wpAny (model X.prog X.w) (LamX.lamCx X A outer s H E scope f c).A (leaving (LamX.lamCx X A outer s H E scope f c).env e) (fun _ => L2N.CX X.prog X.w outer H s E e) (L2N.CX X.prog X.w outer H s E) s'
section
variable {X : Cx}
theorem takesL {A : Around} {outer : List Env} {s : Shared} {H : Hp} {E : XK} {scope : Scope} {f c : Addr} : L2N.Takes (lamN X A outer s H E scope f c) (fun cls d _ H' => E cls d H') := L2N.takes_of rfl rfl rfl rfl
theorem passL {A : Around} {outer : List Env} {s : Shared} {H : Hp} {E : XK} {scope : Scope} {f c : Addr} : Passes (L2N.CX (lamN X A outer s H E scope f c).prog (lamN X A outer s H E scope f c).w) (lamN X A outer s H E scope f c) E := L2N.passes_call takesL fun _ _ _ _ h => h
abbrev lamQ (X : Cx) : Str := X.env.qual ++ "<lambda>"
abbrev lamObj (X : Cx) (params : Arguments) (body : Expr) (scope : Scope) (pm ctv : Value) (c : Addr) : Obj := PySem.W.kla_obj "<lambda>" (lamQ X) params body scope (cloFrom X.env.cells scope.names []) pm c ctv
/-- the lambda called, in the def that got it -/
theorem act_n {CXg : CXT} {Eg E : XK} {Ng : List Str} {qg a : Str} {sg scope : Scope} {g f c : Addr} {cdg pm ctv : Value} {params : Arguments} {body : Expr} {k i : Nat} {pn pins : List (Addr × Obj)} {xe : Value → Shared → Prop} {W : WX} {tb : TE} {p1 p2 : Pos} {σ : L2.St} {H : Hp} {s : Shared}
    (I : Inv X pins σ H s) (L : LamX.LamS X.env.scope scope) (hf : s.heap.get? f = some (lamObj X params body scope pm ctv c)) (hfn : H f = none) (hfr : f ∉ frs X.stack)
    (hbind : bindArgs (PySem.W.kla_fn "<lambda>" (lamQ X) params body scope (cloFrom X.env.cells scope.names []) pm (.ref c) ctv) ⟨[], []⟩ = pure [])
    (tk : L2N.Takes ((cxOf CXg X.prog X.w X.K X.mg X.base Ng qg sg g cdg X.A X.stack s H Eg).tr pn xe) W) (hW : ∀ cls d σ' H', E cls d H' → W cls d σ' H') (hr : Room (k + 1) (X.A.deeper (envOfC qg sg s.heap.objs.size g cdg)))
    (hbody : ∀ (A : Around) (outer : List Env) (s : Shared) (H : Hp), Room k (A.deeper (LamX.lamEnv X scope s.heap.objs.size f c)) → PE (lamN X A outer s H E scope f c) body tb)
    (hN : Ng[i]? = some a) (hv : Vis sg a) (hd : (a == ("__debug__" : Str)) = false) (hcd : (a == ("__classdict__" : Str)) = false) :
    PE ((cxOf CXg X.prog X.w X.K X.mg X.base Ng qg sg g cdg X.A X.stack s H Eg).tr pn xe) (.Call (.Name a p1) [] [] p2) (fun σZ HZ Q => σZ[i]? = some (some (.ref f)) ∧ HZ c = some (LamX.CodeO c (lamQ X)) ∧ tb σ HZ Q) := by
  refine ⟨fun pinsZ sZ σZ HZ Q IZ h => ?_⟩
  have var := (pe_var (X := (cxOf CXg X.prog X.w X.K X.mg X.base Ng qg sg g cdg X.A X.stack s H Eg).tr pn xe) (pos := p1) (i := i) hN hv hd hcd).run pinsZ sZ σZ HZ (fun v H1 => v = .ref f ∧ H1 = HZ) IZ ⟨_, h.1, rfl, rfl⟩
  refine wpAny_Call_Name_kw (thn var fun u s1 h1 => ?_)
  obtain ⟨v, H1, I1, r1, rfl, rfl⟩ := h1
  obtain rfl : u = Value.ref f := r1
  have obj : s1.heap.get? f = some (lamObj X params body scope pm ctv c) := I1.base.keep f _ hf hfn hfr (by intro z; cases z)
  have un : Un (frs X.stack) [] H H1 s.heap s1.heap := I1.base
  obtain ⟨⟨oc, vs, t, hoc, hdc, hvc⟩, _⟩ := I1.hok c _ h.2.1
  have go : codeAny (model X.prog X.w) (X.A.deeper (envOfC qg sg s.heap.objs.size g cdg)) (.call (.ref f) ⟨[], []⟩) (CR (L2N.CX X.prog X.w) (envOfC qg sg s.heap.objs.size g cdg :: X.stack) X.prog X.w H1 s1 Q E) s1 := by
    refine PySem.W.kla_callFunE hr.depth obj rfl L.co L.gen rfl ⟨c, oc, vs, t, rfl, hoc, hdc, hvc⟩ ?_
    rw [hbind]
    refine wpAny_pure (wpAny_newFunctionEnv (fun y hy => (L.own y hy).2) (fun y hy => nomatch hy) (fun h2 ns sb => ⟨I1.nolimit.fresh _ sb, ?_⟩) L.kind)
    have kp : ∀ b o, s1.heap.get? b = some o → h2.get? b = some o := fun b o e => sb.extBut b o (Nat.ne_of_lt (Heap.lt_size e)) (Heap.get?_push_of_some _ e)
    have J := LamX.lam_start2 (f := f) (c' := c) (E := E) (tk := s1.toks + ([] : List (Str × Value)).length) I L I1.env0 hr.hd un ns kp
    refine PySem.W.kla_codeExpr (wpAny_mono ((hbody _ _ s1 H1 (hr.deeper _)).run [] _ σ H1 Q (J.toTry _) h.2.2) (fun v s' hq => ?_) fun _ _ z => z)
    obtain ⟨x, H', J', rv, q⟩ := hq
    exact ⟨x, H', J'.os, J'.bare, J'.base, J'.hok, rv, q⟩
  refine PySem.W.callWith_F0 ⟨_, _, _, _, obj⟩ (wpAny_call (codeAny_mono go fun res s' hq => ?_))
  match res, hq with
  | .ok (.ret u), hq => exact I1.after hq
  | .error e, hq => exact L2N.passes_call tk hW pinsZ σZ H1 s1 e s' I1 hq
theorem takes_len {W : WX} (tk : L2N.Takes X W) : L2N.Takes X (fun cls d σ H => σ.length = X.N.length → W cls d σ H) := fun u s' x => by
  obtain ⟨a, B, sI, pins, σ, H, cls, d, e, I, nb, up, sky, na, os, ag, z⟩ := x
  exact tk u s' ⟨a, B, sI, pins, σ, H, cls, d, e, I, nb, up, sky, na, os, ag, z I.len⟩
theorem pss_imp {ss : List Stmt} {t t' : TS} (h : PSs X ss t) (i : ∀ D σ H, t' D σ H → t D σ H) : PSs X ss t' := ⟨fun pins s σ H D I q => h.run pins s σ H D I (i D σ H q)⟩
theorem cxH_K {CX : CXT} {P : Program} {w : World} {K : PySem.W.Frag} {mg : Str → Option Value} {base : Heap} {N : List Str} {qual : Str} {sc : Scope} {f : Addr} {cd : Value} {A : Around} {outer : List Env} {s : Shared} {H : Hp} {E : XK} {p : Addr × Obj} :
    (L2H.cxH CX P w K mg base N qual sc f cd A outer s H E p).K = K := rfl
/-- what a refusal of the class x is told as -/
def Refu (x : Str) (H : Hp) (Q : VK) : Prop := ∀ r H', H r = none → Same H H' → H' r = some (.tup [.str "refused", .str x]) → Q (.ref r) H'
def spWord (K : PySem.W.Frag) (cs : List Str) : HotSp := fun p H Q => ∃ x ∈ cs, p.2.cls = .ref (He.ga K x) ∧ p.2.dict = none ∧ (∃ vs, p.2.data = .fields vs) ∧ Refu x H Q
def eTold (K : PySem.W.Frag) (cs : List Str) (Q : VK) : XK := fun cls d H => ∃ x ∈ cs, cls = .ref (He.ga K x) ∧ d = none ∧ Refu x H Q
def tTold (K : PySem.W.Frag) (cs : List Str) (T : List (Addr × Str)) (t : XK → TE) : TE := fun σ H Q => LamX.Tabs T H ∧ ∀ H1, LamX.ExtN H H1 → LamX.Tabs T H1 → t (eTold K cs Q) σ H1 Q
/-- told(lambda: body); told: try: return a() / except WoodError as e: return word(e) -/
theorem pe_told {T : List (Addr × Str)} {cs : List Str} {x a n wd we : Str} {st : Stmt} {g fw c P : Addr} {fd : FuncData} {k : Nat} {Ng : List Str} {params : Arguments} {body : Expr} {scope : Scope} {t : XK → TE} {p lpos pos p1 p2 p3 p4 p5 p6 p7 p8 p9 : Pos}
    (F : FunD X.K x x (defArgs st) (defBody st) (defScope st) [] [] g fd) (Sg : FnScope Ng [a] (defScope st)) (hb : BindEq x x st [a])
    (hbd : defBody st = [.Try [.Return (some (.Call (.Name a p1) [] [] p2)) p3] [.ExceptHandler (some (.Name we p4)) (some n) [.Return (some (.Call (.Name wd p5) [.Name n p6] [] p7)) p8] p9] [] [] p])
    (hm : X.mg x = some (.ref g)) (hwe : X.mg we = some (.ref (He.ga X.K "WoodError"))) (hwd : X.mg wd = some (.ref fw)) (hkw : PySem.W.keepIn X.K (.ref fw) = true) (Fw : HotFn X.prog X.w X.K X.mg X.base 2 fw (spWord X.K cs)) (hcs : ∀ x ∈ cs, PySem.W.exmOne X.K (.ref (He.ga X.K x)) (.ref (He.ga X.K "WoodError")) = some true)
    (hN0 : Ng[0]? = some a) (hva : Vis (defScope st) a) (hN1 : Ng[1]? = some n) (hvn : (defScope st).names.lookup n = some .local) (hgwe : (defScope st).names.lookup we = some .globalImplicit) (hgwd : (defScope st).names.lookup wd = some .globalImplicit) (hst : ∀ f : Addr, L2.start Ng [V.ref f] = [some (.ref f), none])
    (TB : LamX.TabB X.base X.mg c P) (hcode : X.env.code = .ref c) (hmT : (P, lamQ X) ∈ T) (hu : ∀ p ∈ T, p.1 = P → p.2 = lamQ X) (hr : Room (k + 4) X.A) (L : LamX.LamS X.env.scope scope) (hdef : defaultsOf params X.env = ([], []))
    (hbind : ∀ (q : Str) (cl : List (Str × Addr)) (pm cv ctv : Value), bindArgs (PySem.W.kla_fn "<lambda>" q params body scope cl pm cv ctv) ⟨[], []⟩ = pure [])
    (hbody : ∀ (A : Around) (outer : List Env) (s : Shared) (H : Hp) (E : XK) (f c' : Addr), Room (k + 2) (A.deeper (LamX.lamEnv X scope s.heap.objs.size f c')) → PE (lamN X A outer s H E scope f c') body (t E))
    (hg : Gl X x := by rfl) (hdb : (x == ("__debug__" : Str)) = false := by decide) (hd : (a == ("__debug__" : Str)) = false := by decide) (hcd : (a == ("__classdict__" : Str)) = false := by decide)
    (hdw : (we == ("__debug__" : Str)) = false := by decide) (hdd : (wd == ("__debug__" : Str)) = false := by decide) (hn1 : (n == ("__debug__" : Str)) = false := by decide) (hn2 : (n == ("__classdict__" : Str)) = false := by decide) {q0 : Pos} :
    PE X (.Call (.Name x q0) [.Lambda params body scope lpos] [] pos) (tTold X.K cs T t) := by
  refine ⟨fun pins s σ H Q I h => ?_⟩
  obtain ⟨hT, h⟩ := h
  refine wpAny_Call_Name_kw (ld_glob I hg hm (PySem.W.callWith_K (h₀ := X.base) I.ok.mod.kin F.kp ?_ (by rfl) (by rfl)) hdb)
  refine Calls.spliced_cons (LamX.lam_make2 I TB hcode hmT hu hT hdef (L.has I.ok) fun f c1 pm ctv H1 s1 I1 eN T1 hf hfn hfr hco => Calls.spliced_nil ⟨I1.kIn, ?_⟩)
  have q1 := h H1 eN T1
  have BT := F.bindsN hb s1 [.ref f] I1.kIn rfl
  obtain ⟨oc, od, dV, kV, doc, pm2, an, cdv, ct, osl, rfl, lk, hcd2, _, _⟩ := F.ex
  have run : codeAny (model X.prog X.w) X.A (.call (.ref g) ⟨[.ref f], []⟩) (CR (L2N.CX X.prog X.w) X.stack X.prog X.w H1 s1 Q E0) s1 := by
    refine LamX.run_ofS (k := k + 3) (N := Ng) (ps := [a]) (us := [.ref f]) (vs := [.ref f]) lk hcd2 Sg hr I1.env0 BT (.cons rfl .nil) rfl fun hr2 => ?_
    rw [hbd]
    refine ⟨_, pss_one (L2N.ps_try_as (X := cxN X.prog X.w X.K X.mg X.base Ng x (defScope st) g cdv X.A X.stack s1 H1 E0) (c := .ref (He.ga X.K "WoodError")) (i := 1) (Wout := fun cls d _ H' => E0 cls d H')
      (tb := fun W D σZ HZ => ∃ E : XK, (∀ cls d (σ' : L2.St) H', E cls d H' → σ'.length = Ng.length → W cls d σ' H') ∧ σZ[0]? = some (some (.ref f)) ∧ HZ c1 = some (LamX.CodeO c1 (lamQ X)) ∧ t E σ HZ D.rt)
      (ts := fun a cls d D σZ HZ => σZ[1]? = some (some (.ref a)) ∧ ∃ x ∈ cs, cls = .ref (He.ga X.K x) ∧ d = none ∧ Refu x HZ D.rt)
      rfl rfl Sg.nd hN1 hvn ⟨hgwe, hdw, .inl hwe⟩ takesE (fun W pn xe tk _ => ?_) (fun ax oe cls d pn hz hfd => ?_)), ?_⟩
    · refine ⟨fun pins2 s2 σ2 H2 D I2 h2 => ?_⟩
      obtain ⟨E, hW, e1, e2, e3⟩ := h2
      exact (pss_one (ps_ret (act_n (p1 := p1) (p2 := p2) (i := 0) I1 L hf hfn hfr (hbind _ _ _ _ _) (takes_len tk) hW hr2 (fun A outer s H hr3 => hbody A outer s H E f c1 hr3) hN0 hva hd hcd))).run pins2 s2 σ2 H2 D I2 ⟨e1, e2, e3⟩
    · have ctx : ∃ vs : Array Value, oe.data = .fields vs ∧ vs[2]? = some Value.none := by
        obtain ⟨vs, e⟩ := hfd
        exact ⟨vs, e, hz.2.2 vs e⟩
      refine pss_imp (pss_one (ps_ret (pe_hot (i := 1) (p := (ax, oe)) Fw ?_ ⟨rfl, ctx⟩ List.mem_cons_self hwd hkw hN1 (.inl hvn) hgwd hdd hn1 hn2))) fun D σ2 H2 hq => ?_
      · have a1 := hr2.dp
        have a2 := hr2.un
        refine ⟨?_, ?_⟩
        · show (X.A.deeper (envOfC x (defScope st) s1.heap.objs.size g cdv)).depth + 3 * 2 + 5 < recursionLimit
          omega
        · show (X.A.deeper (envOfC x (defScope st) s1.heap.objs.size g cdv)).units + 16 * 2 + 200 < cLine
          omega
      · obtain ⟨e1, x, hx, e2, e3, e4⟩ := hq
        exact ⟨e1, x, hx, hz.1.trans e2, hz.2.1.trans e3, hfd, e4⟩
    · refine ⟨eTold X.K cs Q, fun cls d σ' H' z hlen => ?_, by rw [hst]; rfl, hco, q1⟩
      obtain ⟨x, hx, rfl, rfl, e⟩ := z
      refine ⟨true, hcs x hx, fun _ ax nax => ⟨?_, x, hx, rfl, rfl, e⟩, fun z => by cases z⟩
      have l2 : 1 < σ'.length := by
        rw [hlen]
        exact (List.getElem?_eq_some_iff.mp hN1).1
      simp [l2]
  refine wpAny_call (codeAny_mono run fun res s2 hq => ?_)
  match res, hq with
  | .ok (.ret u), hq => exact I1.after hq
  | .error e, hq => exact passF pins σ H1 s1 e s2 I1 hq
end
end Vw
namespace Vw
open PySem PySem.Spec PyProof.Rows L2
/-! ### rules that forget all of a new object but that the rest stays -/
def tMon (t : TA) : TA := fun σ H Q => ∃ R, t σ H R ∧ ∀ vs H1, R vs H1 → Q vs H1
section
variable {X : Cx} {es : List Expr} {t : TA} {e : Expr} {te te' : TE} {pos : Pos}
theorem pa_mon (h : PA X es t) : PA X es (tMon t) := ⟨fun pos pins s σ H Q I z => by
  obtain ⟨R, h1, h2⟩ := z
  exact thn (h.run pos pins s σ H R I h1) fun us s1 ⟨vs, H1, I1, r, q⟩ => ⟨vs, H1, I1, r, h2 vs H1 q⟩⟩
theorem pe_imp (h : PE X e te) (i : ∀ σ H Q, te' σ H Q → te σ H Q) : PE X e te' := ⟨fun pins s σ H Q I z => h.run pins s σ H Q I (i σ H Q z)⟩
def New (o : HO) (H : Hp) (Q : VK) : Prop := ∀ p H', H p = none → Same H H' → H' p = some o → Q (.ref p) H'
theorem New.use {o : HO} {H : Hp} {Q : VK} (h : New o H Q) : ∀ p, H p = none → Q (.ref p) (upd H p o) := fun p n => h p _ n (Same.new n) upd_same
def tTupS (t : TA) : TE := fun σ H Q => t σ H fun xs H1 => xs.length ≤ sizeLine ∧ New (.tup xs) H1 Q
def tLstS (t : TA) : TE := fun σ H Q => t σ H fun xs H1 => xs.length ≤ sizeLine ∧ New (.lst xs) H1 Q
theorem pe_tupS {x1 : Nat} (h : PA X es t) : PE X (.Tuple es x1 pos) (tTupS t) := pe_imp (pe_tup (pa_mon h)) fun σ H Q z => ⟨_, z, fun vs H1 q => ⟨q.1, q.2.use⟩⟩
theorem pe_lstS (h : PA X es t) : PE X (.List es pos) (tLstS t) := pe_imp (pe_lst (pa_mon h)) fun σ H Q z => ⟨_, z, fun vs H1 q => ⟨q.1, q.2.use⟩⟩
def tDNewKS : TE := fun _ H Q => New (.dK []) H Q
def tDNewTS : TE := fun _ H Q => New (.dT []) H Q
theorem pe_dnewKS : PE X (.Dict [] [] pos) tDNewKS := pe_imp pe_dnewK fun σ H Q z => z.use
theorem pe_dnewTS : PE X (.Dict [] [] pos) tDNewTS := pe_imp pe_dnewT fun σ H Q z => z.use
def rCatN : R2 := fun x y H Q => ∃ l b xs zs, x = .ref l ∧ y = .ref b ∧ H l = some (.lst xs) ∧ H b = some (.lst zs) ∧ xs.length + zs.length ≤ sizeLine ∧ New (.lst (xs ++ zs)) H Q
theorem op_catN : OpR X (binaryOp .Add) rCatN := fun pins s σ H x y v u Q I rx ry h => by
  obtain ⟨l, b, xs, zs, h1, h2, h3, h4, h5, h6⟩ := h
  exact op_cat pins s σ H x y v u Q I rx ry ⟨l, b, xs, zs, h1, h2, h3, h4, h5, h6.use⟩
def rSlN (K : PySem.W.Frag) : V → Option Int → Option Int → Hp → VK → Prop := fun x lo hi H Q => ∃ a xs, x = .ref a ∧ SqL K H a xs ∧ New (.lst (cutV xs lo hi)) H Q
theorem sl_listN : SlR X (rSlN X.K) := fun pins s σ H x v vl vu lo hi sl Q I rx hs pl pu h => by
  obtain ⟨a, xs, h1, h2, h3⟩ := h
  exact sl_list pins s σ H x v vl vu lo hi sl Q I rx hs pl pu ⟨a, xs, h1, h2, h3.use⟩
/-- t[lo:hi] of a tuple: new, or t itself -/
def rSlTN (K : PySem.W.Frag) : V → Option Int → Option Int → Hp → VK → Prop := fun x lo hi H Q => ∃ a xs, x = .ref a ∧ SqT K H a xs ∧ ∀ p H', Same H H' → SqT K H' p (cutV xs lo hi) → Q (.ref p) H'
theorem sl_tupN : SlR X (rSlTN X.K) := fun pins s σ H x v vl vu lo hi sl Q I rx hs pl pu h => by
  obtain ⟨a, xs, h1, h2, h3⟩ := h
  refine sl_tupA pins s σ H x v vl vu lo hi sl Q I rx hs pl pu ⟨a, xs, h1, h2, fun w => h3 a H (Same.refl _) ?_, fun w p n => h3 p _ (Same.new n) (.inl (.inl upd_same))⟩
  have e : cutV xs lo hi = xs := by
    unfold cutV
    rw [w.1, w.2]
    simp
  rw [e]
  exact h2
def rSortedN (K : PySem.W.Frag) : List V → Hp → VK → Prop := fun vs H Q => ∃ (a : Addr) (ns : List Int), vs = [V.ref a] ∧ SqL K H a (ns.map V.int) ∧ ns.length < 64 ∧ ∀ ns' : List Int, ns'.Perm ns → ns'.Pairwise (· ≤ ·) → New (.lst (ns'.map V.int)) H Q
theorem cr_sortedN : CallR X (.builtin "sorted") (rSortedN X.K) := fun pins s σ H vs us Q I r h => by
  obtain ⟨a, ns, h1, h2, h3, h4⟩ := h
  exact cr_sorted pins s σ H vs us Q I r ⟨a, ns, h1, h2, h3, fun ys p y1 y2 n => (h4 ys y1 y2).use p n⟩
def rSortedDN : List V → Hp → VK → Prop := fun xs H Q => ∃ (a : Addr) (kvs : List (Key × V)) (ks : List Int), xs = [.ref a] ∧ Rd H a (.dK kvs) ∧ kvs.map (·.1) = ks.map Sum.inl ∧ ks.length < 64 ∧ ∀ ys : List Int, ys.Perm ks → ys.Pairwise (· ≤ ·) → New (.lst (ys.map V.int)) H Q
theorem call_sortedDN (hc : X.calm = true) : CallR X (.builtin "sorted") rSortedDN := fun pins s σ H vs us Q I r h => by
  obtain ⟨a, kvs, ks, h1, h2, h3, h4, h5⟩ := h
  exact call_sortedDI hc pins s σ H vs us Q I r ⟨a, kvs, ks, h1, h2, h3, h4, fun ys p y1 y2 n => (h5 ys y1 y2).use p n⟩
end
theorem _root_.L2.Same.over {H H' : Hp} {l : Addr} {o : HO} (s : Same H H') (n : H l = none) : Same H (upd H' l o) := fun b u e => by
  rw [upd_ne (ne_of_none e n)]
  exact s b u e
theorem op_in_seqK (K : PySem.W.Frag) {X : Cx} (hK : X.K = K := by rfl) : OpR X (compareOp .In) (rIn K false) := by
  subst hK
  exact op_in_seq
theorem op_notIn_seqK (K : PySem.W.Frag) {X : Cx} (hK : X.K = K := by rfl) : OpR X (compareOp .NotIn) (rIn K true) := by
  subst hK
  exact op_notIn_seq
theorem pe_ixL (K : PySem.W.Frag) {X : Cx} {o i : Expr} {to ti : TE} {pos : Pos} (ho : PE X o to) (hi : PE X i ti) (hs : NoSl i := by exact fun _ _ => rfl) (hK : X.K = K := by rfl) : PE X (.Subscript o i pos) (tOp (rIxL K) to ti) := by
  subst hK
  exact pe_ix ix_list ho hi hs
theorem pe_ixT (K : PySem.W.Frag) {X : Cx} {o i : Expr} {to ti : TE} {pos : Pos} (ho : PE X o to) (hi : PE X i ti) (hs : NoSl i := by exact fun _ _ => rfl) (hK : X.K = K := by rfl) : PE X (.Subscript o i pos) (tOp (rIxT K) to ti) := by
  subst hK
  exact pe_ix ix_tup ho hi hs
/-! ### a def with lambdas: its code object is known -/
section
variable {P : Program} {w : World} {K : PySem.W.Frag} {mg : Str → Option Value} {base : Heap}
theorem mk_defC {x qual : Str} {st : Stmt} {N ps : List Str} {k : Nat} {sp : Sp} (F : Is K x qual st (He.ga K x)) (S : FnScope N ps (defScope st)) (hb : BindEq x qual st ps) (len : ∀ vs H Q E, sp vs H Q E → vs.length = ps.length)
    (body : ∀ (cdv : Value) (A : Around) (outer : List Env) (s : Shared) (H : Hp) (vs : List V) (Q : VK) (E : XK), cdv = .ref (He.cT K (x, none)).1 → Room k (A.deeper (envOfC qual (defScope st) s.heap.objs.size (He.ga K x) cdv)) → sp vs H Q E →
      ∃ t, PSs (cxN P w K mg base N qual (defScope st) (He.ga K x) cdv A outer s H E) (defBody st) t ∧ t { nx := fun _ H' => Q .non H', rt := Q } (L2.start N vs) H) :
    Def P w K mg base (k + 1) (He.ga K x) ps sp := by
  obtain ⟨fd, F⟩ := F
  have bn := F.bindsN hb
  have kp := F.kp
  obtain ⟨oc, od, dV, kV, doc, pm, an, cdv, ct, osl, rfl, lk, hcd, _, _⟩ := F.ex
  obtain ⟨c, rfl⟩ := He.codeIn_ref hcd
  have e : (He.cT K (x, none)).1 = c := He.codeOf_eq (p := (x, none)) lk rfl
  refine ⟨⟨_, fn_of lk hcd S len fun A outer s H vs Q E hr hsp => ?_, bn⟩, kp⟩
  exact body (.ref c) A outer s H vs Q E (by rw [e]) hr hsp
end
section
variable {P : Program} {w : World} {K : PySem.W.Frag} {mg : Str → Option Value} {base : Heap}
theorem fn_defC {x qual : Str} {st : Stmt} {N ps : List Str} {k : Nat} {sp : Sp} {fd : FuncData} (F : FunD K x qual (defArgs st) (defBody st) (defScope st) [] [] (He.ga K x) fd) (S : FnScope N ps (defScope st)) (len : ∀ vs H Q E, sp vs H Q E → vs.length = ps.length)
    (body : ∀ (cdv : Value) (A : Around) (outer : List Env) (s : Shared) (H : Hp) (vs : List V) (Q : VK) (E : XK), cdv = .ref (He.cT K (x, none)).1 → Room k (A.deeper (envOfC qual (defScope st) s.heap.objs.size (He.ga K x) cdv)) → sp vs H Q E →
      ∃ t, PSs (cxN P w K mg base N qual (defScope st) (He.ga K x) cdv A outer s H E) (defBody st) t ∧ t { nx := fun _ H' => Q .non H', rt := Q } (L2.start N vs) H) :
    FnOk P w K mg base (L2N.CX P w) (k + 1) (He.ga K x) fd ps sp := by
  obtain ⟨oc, od, dV, kV, doc, pm, an, cdv, ct, osl, rfl, lk, hcd, _, _⟩ := F.ex
  obtain ⟨c, rfl⟩ := He.codeIn_ref hcd
  have e : (He.cT K (x, none)).1 = c := He.codeOf_eq (p := (x, none)) lk rfl
  exact fn_of lk hcd S len fun A outer s H vs Q E hr hsp => body (.ref c) A outer s H vs Q E (by rw [e]) hr hsp
end
/-! ### numbers -/
theorem useI {c : Int → Int → Prop} {g : Int → Int → V} {i j : Int} {H : Hp} {Q : VK} (h : c i j) (q : Q (g i j) H) : rI c g (.int i) (.int j) H Q := ⟨i, j, rfl, rfl, h, q⟩
theorem mulx {i j : Int} {a b : Nat} (ha : i.natAbs < 2 ^ a) (hb : j.natAbs < 2 ^ b) (h : a + b ≤ 134217728) : CMulX i j := mulx_ok ha hb h
theorem abs_lt {i : Int} {n : Nat} (h0 : 0 ≤ i) (h : i < 2 ^ n) : i.natAbs < 2 ^ n := by
  have e : ((2 ^ n : Nat) : Int) = 2 ^ n := by simp
  omega
theorem atI_nn {α : Type} {xs : List α} {i : Int} (h0 : 0 ≤ i) (h1 : i < xs.length) : atI xs i = xs[i.toNat]? := by
  unfold atI ixN
  rw [if_pos h0, if_pos h1]
  rfl
def cellM (sc : List Int) (k : Int) : Int := if sc = [] then k * 7919 else (sc[(k % sc.length).toNat]?).getD 0 + k / sc.length * 104729
def bigB : Nat := 3000000
def drawM (c k : Int) : Int :=
  let a := (c * 6364136223846793005 + (k + 1) * 1442695040888963407) % 340282366920938463463374607431768211507
  let b := a * a % 340282366920938463463374607431768211297
  (b % 18446744073709551557 + 1) * (b / 18446744073709551557 + 1) * b % 340282366920938463463374607431768211507
theorem drawM_range (c k : Int) : 0 ≤ drawM c k ∧ drawM c k < 340282366920938463463374607431768211507 := by
  unfold drawM
  exact ⟨Int.emod_nonneg _ (by decide), Int.emod_lt_of_pos _ (by decide)⟩
theorem use_isP {K : PySem.W.Frag} {D a D' : Addr} {b : Bool} {H : Hp} {Q : VK} (e : PySem.W.kitOne K (.ref D) (.ref D') = some b) (q : Q (.bl b) H) : rIsE K D a [.ref a, .ref D'] H Q := ⟨.ref D', .ref D', b, rfl, fun _ r => r, e, q⟩
theorem use_isV {K : PySem.W.Frag} {D a : Addr} {t : String} {b : Bool} {H : Hp} {Q : VK} (e : PySem.W.kitOne K (.ref D) (.type t) = some b) (q : Q (.bl b) H) : rIsE K D a [.ref a, .ty t] H Q := ⟨.ty t, .type t, b, rfl, fun _ r => r, e, q⟩
def spCell (K : PySem.W.Frag) : Sp := fun vs H Q _ => ∃ (p : Addr) (sc : List Int) (k : Int), vs = [.ref p, .int k] ∧ SqL K H p (sc.map V.int) ∧ sc.length ≤ 100 ∧ 0 ≤ k ∧ k < 1000 ∧ ∀ H', Same H H' → Q (.int (cellM sc k)) H'
def spDraw : Sp := fun vs H Q _ => ∃ c k : Int, vs = [.int c, .int k] ∧ c.natAbs < 2 ^ bigB ∧ k.natAbs < 2 ^ 200 ∧ Q (.int (drawM c k)) H
def bigC : Nat := 1048577
theorem pow_sum {a b : Nat} (h30 : 30 ≤ a) (h : a + 1 ≤ b) : 2 ^ a + 2 ^ 30 ≤ 2 ^ b := by
  have x : 2 ^ 30 ≤ 2 ^ a := Nat.pow_le_pow_right (by omega) h30
  have y : 2 ^ a + 2 ^ a = 2 ^ (a + 1) := by rw [Nat.pow_succ]; omega
  have z : 2 ^ (a + 1) ≤ 2 ^ b := Nat.pow_le_pow_right (by omega) h
  omega
theorem cell_abs {sc : List Int} {k : Int} (h0 : 0 ≤ k) (h1 : k < 1000) (hs : ∀ z ∈ sc, z.natAbs < 2 ^ bigC) : (cellM sc k).natAbs < 2 ^ bigB := by
  have big : 2 ^ bigC + 2 ^ 30 ≤ 2 ^ bigB := pow_sum (by unfold bigC; omega) (by unfold bigC bigB; omega)
  have s30 : (2 : Nat) ^ 30 = 1073741824 := by decide
  generalize 2 ^ bigB = B at *
  generalize 2 ^ bigC = C at *
  unfold cellM
  split
  · omega
  · have a : ((sc[(k % sc.length).toNat]?).getD 0).natAbs < C ∨ ((sc[(k % sc.length).toNat]?).getD 0) = 0 := by
      cases q : sc[(k % sc.length).toNat]? with
      | none => exact .inr rfl
      | some z => exact .inl (hs z (List.mem_of_getElem? q))
    have d0 : 0 ≤ k / (sc.length : Int) := Int.ediv_nonneg h0 (by omega)
    have d1 : k / (sc.length : Int) ≤ k := Int.ediv_le_self _ h0
    omega
end Vw
namespace Vw
open PySem PySem.Spec PyProof.Rows L2
theorem fold_rep (a : Array Nat) : ∀ (n : Nat) (acc : Array Nat), ((List.replicate n a).foldl (· ++ ·) acc).toList = acc.toList ++ (List.replicate n a.toList).flatten
  | 0, acc => by simp
  | n + 1, acc => by
    rw [List.replicate_succ, List.foldl_cons, fold_rep a n, List.replicate_succ, List.flatten_cons, Array.toList_append, List.append_assoc]
theorem fold_size (a : Array Nat) (n : Nat) : ((List.replicate n a).foldl (· ++ ·) #[]).size = n * a.size := by
  rw [← Array.length_toList, fold_rep]
  simp
/-- text * int -/
def repS (z : Str) (n : Int) : Str := if n < 1 then Str.empty else if (n == 1 || z.length == 0) = true then z else ⟨(List.replicate n.toNat z.cps).foldl (· ++ ·) #[]⟩
def rRepS : R2 := fun x y H Q => ∃ (z : Str) (n : Int), x = .str z ∧ y = .int n ∧ 0 ≤ n ∧ n ≤ 1000 ∧ z.length ≤ 1000 ∧ Q (.str (repS z n)) H
theorem op_rep_str {X : Cx} : OpR X (binaryOp .Mult) rRepS := by
  intro pins s σ H x y v u Q I rx ry h
  obtain ⟨z, n, rfl, rfl, h0, h1, h2, q⟩ := h
  obtain ⟨t, rfl⟩ := rx
  obtain ⟨t', rfl⟩ := ry
  have small : ∀ k : Nat, k ≤ 1000 → z.length * k ≤ 1000000 := fun k hk => Nat.le_trans (Nat.mul_le_mul h2 hk) (by decide)
  refine PySem.P.mul_str ?_ (fun a b => ?_) (fun a b => ?_) ?_
  · rw [decide_eq_false (by omega), decide_eq_false (by omega)]
    rfl
  · have n1 : 1 ≤ n := by omega
    intro g
    have g : ((2 : Int) ^ 63 - 1) / n < (z.length : Int) := g
    rw [Int.ediv_lt_iff_lt_mul (by omega)] at g
    have m1 : (z.length : Int) * n ≤ 1000 * 1000 := Int.mul_le_mul (by omega) h1 (by omega) (by omega)
    omega
  · have m1 := small n.toNat (by omega)
    unfold PySem.Builtin.Str.tooLong
    rw [sizeLine_eq]
    exact decide_eq_false (by omega)
  · have fin : ∀ {y : Str}, y.length ≤ sizeLine → Q (.str y) H → (Made.str y).post (EP X pins σ Q) s := fun {y} hy qy => ⟨hy, .str y, H, I.tok _, ⟨_, rfl⟩, qy⟩
    unfold repS at q
    by_cases c1 : n < 1
    · rw [if_pos c1] at q ⊢
      exact fin (Nat.zero_le _) q
    · rw [if_neg c1] at q ⊢
      by_cases c2 : (n == 1 || z.length == 0) = true
      · rw [if_pos c2] at q ⊢
        exact ⟨.str z, H, I, ⟨_, rfl⟩, q⟩
      · rw [if_neg c2] at q ⊢
        refine fin ?_ q
        show ((List.replicate n.toNat z.cps).foldl (· ++ ·) #[]).size ≤ sizeLine
        rw [fold_size, sizeLine_eq, Nat.mul_comm]
        have m1 := small n.toNat (by omega)
        have m1 : z.cps.size * n.toNat ≤ 1000000 := m1
        omega
end Vw
namespace Vw
open PySem PySem.Spec PyProof.Rows L2
/-- the items of xs[lo:hi:st] -/
def pickV (xs : List V) (lo hi st : Option Int) : List V :=
  (sliceRange (sliceBounds lo hi st xs.length).1 (sliceBounds lo hi st xs.length).2.1 (sliceBounds lo hi st xs.length).2.2).filterMap (xs[·]?)
theorem pickV_mem {xs : List V} {lo hi st : Option Int} {y : V} (h : y ∈ pickV xs lo hi st) : y ∈ xs := by
  obtain ⟨i, _, hi⟩ := List.mem_filterMap.mp h
  exact List.mem_of_getElem? hi
theorem pickV_ints (ns : List Int) (lo hi st : Option Int) : ∃ ms : List Int, pickV (ns.map V.int) lo hi st = ms.map V.int ∧ ∀ m ∈ ms, m ∈ ns := by
  unfold pickV
  generalize sliceRange _ _ _ = is
  refine ⟨is.filterMap (ns[·]?), ?_, fun m hm => ?_⟩
  · rw [List.map_filterMap]
    congr 1
    funext i
    rw [List.getElem?_map]
  · obtain ⟨i, _, hi⟩ := List.mem_filterMap.mp hm
    exact List.mem_of_getElem? hi
theorem vals_pick {xs : List V} {us : List Value} (r : Vals xs us) (is : List Nat) : Vals (is.filterMap (xs[·]?)) (is.filterMap (us[·]?)) := by
  induction is with
  | nil => exact .nil
  | cons i t ih =>
    rw [List.filterMap_cons, List.filterMap_cons]
    cases q : xs[i]? with
    | none =>
      have z : us[i]? = none := by
        rw [List.getElem?_eq_none_iff] at q ⊢
        rw [← r.length]
        exact q
      rw [z]
      exact ih
    | some x =>
      obtain ⟨u, hu, ru⟩ := r.get q
      rw [hu]
      exact .cons ru ih
theorem pickV_length (xs : List V) (lo hi st : Option Int) (us : List Value) (r : Vals xs us) : (pickV xs lo hi st).length ≤ xs.length := by
  have e := (vals_pick r (sliceRange (sliceBounds lo hi st xs.length).1 (sliceBounds lo hi st xs.length).2.1 (sliceBounds lo hi st xs.length).2.2)).length
  unfold pickV
  rw [e]
  have h := slicePick_size_le us.toArray lo hi st
  unfold slicePick at h
  rw [List.size_toArray, List.size_toArray, ← r.length] at h
  simpa using h
def tStepL (K : PySem.W.Frag) (te : TE) (tl th tst : TO) : TE := fun σ H Q => te σ H fun x H1 => tl σ H1 fun l H2 => th σ H2 fun u H3 => tst σ H3 fun st H4 => ∃ a xs, x = .ref a ∧ SqL K H4 a xs ∧ st ≠ some 0 ∧ New (.lst (pickV xs l u st)) H4 Q
section
variable {X : Cx}
theorem pe_stepL {e st : Expr} {lo hi : Option Expr} {te : TE} {tl th tst : TO} {p3 pos : Pos} (he : PE X e te) (hl : PO X lo tl) (hu : PO X hi th) (hst : PO X (some st) tst) : PE X (.Subscript e (.Slice lo hi (some st) p3) pos) (tStepL X.K te tl th tst) := by
  refine ⟨fun pins s σ H Q I h => ?_⟩
  refine Subscript_ (thn (he.run pins s σ H _ I h) fun v s1 ⟨x, H1, I1, r1, q1⟩ => ?_)
  refine wpAny_Slice (thn (hl.run pins s1 σ H1 _ I1 q1) fun vl s2 ⟨l, H2, I2, pl, q2⟩ => thn (hu.run pins s2 σ H2 _ I2 q2) fun vu s3 ⟨u, H3, I3, pu, q3⟩ => thn (hst.run pins s3 σ H3 _ I3 q3) fun vs s4 ⟨o, H4, I4, ps, q4⟩ => ?_)
  obtain ⟨a, xs, ex, hx, o0, q⟩ := q4
  subst ex
  cases r1
  have I5 : Inv X pins σ H4 { s4 with heap := s4.heap.push { cls := .type "slice", data := .fields #[vl, vu, vs] } } := I4.kept (t' := s4.toks) fun b ob q => Heap.get?_push_of_some _ q
  obtain ⟨its, r, ht, hz⟩ := I5.list hx
  have hlen := r.length
  show wpAny (model X.prog X.w) X.A (subscriptTail e (.Slice lo hi (some st) p3) (.ref a) (.ref s4.heap.objs.size)) (EP X pins σ Q) X.xe { s4 with heap := s4.heap.push { cls := .type "slice", data := .fields #[vl, vu, vs] } }
  refine tail_any (ops := [.ref a, .ref s4.heap.objs.size]) ht.isList.typeIs (PySem.slot_list_getitem.lookup) ?_ (by with_unfolding_all rfl)
  refine wpAny_getItem_list_slice ht.isList (Heap.IsSliceOf.new _ vl vu vs) pl pu ps o0 ?_ (by rw [List.size_toArray]; omega)
  refine ⟨.ref _, _, I5.laid (t' := s4.toks) (o := .lst (pickV xs l u o)) (fun b ob q => Heap.get?_push_of_some _ q) (Nat.le_refl _) ?_, rfl, q.use _ (I5.hok.fresh (Nat.le_refl _))⟩
  refine ⟨Nat.le_trans (pickV_length xs l u o its r) hz, _, 0, ?_, Heap.get?_push_size _ rfl⟩
  unfold pickV
  have e := vals_pick r (sliceRange (sliceBounds l u o xs.length).1 (sliceBounds l u o xs.length).2.1 (sliceBounds l u o xs.length).2.2)
  have e2 : its.toArray.size = xs.length := by rw [List.size_toArray, hlen]
  have e3 : (fun i : Nat => its.toArray[i]?) = fun i : Nat => its[i]? := by
    funext i
    simp
  rw [← e2] at e ⊢
  rw [← e3] at e
  exact e
/-- xs[::-1], all but the list forgotten -/
def tRevN (K : PySem.W.Frag) (te : TE) : TE := fun σ H Q => te σ H fun x H1 => ∃ a xs, x = .ref a ∧ SqL K H1 a xs ∧ New (.lst xs.reverse) H1 Q
end
def rRepN : R2 := fun x y H Q => ∃ l k xs, x = .ref l ∧ y = .int k ∧ H l = some (.lst xs) ∧ -(2 ^ 63) ≤ k ∧ k < 2 ^ 63 ∧ xs.length * k.toNat ≤ sizeLine ∧ New (.lst (List.replicate k.toNat xs).flatten) H Q
theorem op_repN {X : Cx} : OpR X (binaryOp .Mult) rRepN := fun pins s σ H x y v u Q I rx ry h => by
  obtain ⟨l, k, xs, h1, h2, h3, h4, h5, h6, h7⟩ := h
  exact op_rep pins s σ H x y v u Q I rx ry ⟨l, k, xs, h1, h2, h3, h4, h5, h6, h7.use⟩
/-- sorted(d), d's keys texts, as many as there may be -/
def rSortedSN : List V → Hp → VK → Prop := fun xs H Q => ∃ (a : Addr) (kvs : List (Key × V)) (ks : List Str), xs = [.ref a] ∧ Rd H a (.dK kvs) ∧ kvs.map (·.1) = ks.map Sum.inr ∧ ks.length ≤ 5000 ∧ ∀ ys : List Str, ys.Perm ks → sortedS ys = true → New (.lst (ys.map V.str)) H Q
theorem txts_of_keys {vs : List (Key × Value)} {ks : List Str} {acc : Array Value} (hk : vs.map (·.1) = ks.map Sum.inr) (ln : acc.toList.length = ks.length) (ha : ∀ (j : Nat) (v : Value), acc[j]? = some v → ∃ (k : Key) (x : Value), vs[j]? = some (k, x) ∧ keyIs k v = true) : StrsAre acc.toList ks := by
  refine strs_at ln fun j v hj => ?_
  obtain ⟨k, x, h1, h2⟩ := ha j v (by rw [← Array.getElem?_toList]; exact hj)
  have h3 : (ks.map (Sum.inr (α := Int)))[j]? = some k := by rw [← hk, List.getElem?_map, h1]; rfl
  rw [List.getElem?_map] at h3
  cases h4 : ks[j]? with
  | none => rw [h4] at h3; cases h3
  | some y =>
    rw [h4] at h3
    cases h3
    obtain ⟨t, hv⟩ := Value.isStrOf_shape (x := y) (v := v) h2
    exact ⟨y, t, rfl, hv⟩
theorem call_sortedSN {X : Cx} (hc : X.calm = true) : CallR X (.builtin "sorted") rSortedSN := fun pins s σ H vs us Q I r h => by
  obtain ⟨a, kvs, ks, rfl, hd, h3, h4, h5⟩ := h
  obtain ⟨u, rfl, ru⟩ := vals1 r
  cases ru
  obtain ⟨_, lo, rs, rel, dd⟩ := dk_rd I.hok hd
  obtain ⟨ep, hat⟩ := dd.dictAt
  have kk : rs.map (·.1) = ks.map Sum.inr := rel.keys.symm.trans h3
  have ll : rs.length = ks.length := by simpa using congrArg List.length kk
  have z9 : (5000 : Nat) < sizeLine := by rw [sizeLine_eq]; omega
  refine Calls.call_function_entry kind_sorted plain_sorted entry_sorted (args_sorted1 _) ?_
  unfold Builtin.«sorted»
  refine wpAny_bind (m := checkCount "sorted" 1 1 _) (wpAny_pure (wpAny_bind (PySem.W.kdu_collect (A := X.A.in1) (PySem.W.kdl_dict (knd := mixKind X.prog X.w) (kvs := rs) (ep := ep) lo) (I.ok.hd hc) hat (by omega) fun h' tk acc kp ha => ?_)))
  have la : acc.toList.length = ks.length := by rw [Array.length_toList, ha.1, ll]
  have tx := txts_of_keys kk la ha.2
  have I' : Inv X pins σ H { s with heap := h', toks := tk } := I.kept kp
  refine wpAny_bind (wpAny_newList ?_ (by omega))
  have at1 : (h'.push (seqObj "list" acc.toList.toArray 0)).get? h'.objs.size = some (seqObj "list" acc.toList.toArray 0) := Heap.get?_push_size _ rfl
  refine wpAny_bind (wpAny_holding (wpAny_call_entry slot_list_sort (s := { s with heap := h'.push (seqObj "list" acc.toList.toArray 0), toks := tk }) ⟨_, at1, rfl⟩ entry_list_sort (list_sort_treeKAny strKind_oneLt (s := { s with heap := h'.push (seqObj "list" acc.toList.toArray 0), toks := tk }) at1 tx.keysOf (fun v₁ v₂ rest e => keyKind_strs (by rw [← e]; exact tx)) (by omega) fun st pm so => ⟨_, rfl, ?_⟩) (args_list_sort _)))
  obtain ⟨ys, g1, g2, g3⟩ := sorted_out_str tx pm so
  obtain ⟨e', at2⟩ := sortedHeap_at (vs := acc.toList) (out := (arrOf st).map (·.2)) at1
  have ly : (ys.map V.str).length ≤ sizeLine := by rw [List.length_map, g2.length_eq]; omega
  refine wpAny_pure ⟨_, rfl, .ref h'.objs.size, upd H h'.objs.size (.lst (ys.map V.str)), I'.laid (t' := tk) (fun b o hb => ?_) (Nat.le_refl _) (show ObjOk X.prog X.w _ _ _ (.lst (ys.map V.str)) from ⟨ly, ((arrOf st).map (·.2)).toList, e', vals_of_strs g1, by rw [Array.toArray_toList]; exact at2⟩), rfl, (h5 ys g2 g3).use _ (I'.hok.fresh (Nat.le_refl _))⟩
  have lb : b < h'.objs.size := Heap.lt_size hb
  rw [sortedHeap_old (Nat.ne_of_lt lb) (by rw [size_push']; exact Nat.lt_succ_of_lt lb)]
  exact Heap.get?_push_of_some _ hb
theorem pg_tupK (K : PySem.W.Frag) {X : Cx} {es : List Expr} {k : Nat} {t : TGs} {n : Nat} {pos : Pos} (hc : X.calm = true) (h : PGs X es t)
    (hn : (assignEach es X.env).length = n := by rfl) (hst : (assignEach es X.env).findIdx? (·.1) = none := by rfl) (hK : X.K = K := by rfl) : PG X (.Tuple es k pos) (gTup K n t) := by
  subst hK
  exact pg_tup hc h hn hst
end Vw
namespace Vw
open PySem PySem.Spec PyProof.Rows L2
section
variable {X : Cx}
/-- dict(pairs), dict(d): all but the new dict forgotten -/
def rDictP (K : PySem.W.Frag) : List V → Hp → VK → Prop := fun xs H Q => ∃ (a : Addr) (ps : List Addr) (kvs : List (Key × V)), xs = [.ref a] ∧ SqL K H a (ps.map V.ref) ∧ Paired (fun p kv => SqT K H p [kV kv.1, kv.2]) ps kvs ∧ New (.dK (mergeK [] kvs)) H Q
theorem call_dictPN (hc : X.calm = true) : CallR X (.type "dict") (rDictP X.K) := fun pins s σ H vs us Q I r h => by
  obtain ⟨a, ps, kvs, h1, h2, h3, h4⟩ := h
  exact call_dictP hc pins s σ H vs us Q I r ⟨a, ps, kvs, h1, h2, h3, h4.use⟩
def rDictD : List V → Hp → VK → Prop := fun xs H Q => ∃ (a : Addr) (kvs : List (Key × V)), xs = [.ref a] ∧ Rd H a (.dK kvs) ∧ New (.dK kvs) H Q
theorem call_dictDN : CallR X (.type "dict") rDictD := fun pins s σ H vs us Q I r h => by
  obtain ⟨a, kvs, h1, h2, h3⟩ := h
  exact call_dictD pins s σ H vs us Q I r ⟨a, kvs, h1, h2, h3.use⟩
theorem call_isiK (K : PySem.W.Frag) (hK : X.K = K := by rfl) : CallR X (.builtin "isinstance") (rIsi K) := by
  subst hK
  exact call_isi
end
theorem mergeK_app : ∀ (l acc : List (Key × V)), ((acc ++ l).map (·.1)).Nodup → mergeK acc l = acc ++ l
  | [], acc, _ => by simp [mergeK]
  | p :: r, acc, h => by
    have e : putK acc p.1 p.2 = acc ++ [p] := by
      unfold putK
      rw [if_neg]
      intro z
      obtain ⟨q, hq, e⟩ := List.any_eq_true.mp z
      have e := of_decide_eq_true e
      rw [List.map_append] at h
      have := (List.nodup_append.mp h).2.2 q.1 (List.mem_map.mpr ⟨q, hq, rfl⟩) p.1 (by simp)
      exact this e
    show mergeK (putK acc p.1 p.2) r = _
    rw [e, mergeK_app r (acc ++ [p]) (by rw [List.append_assoc]; exact h), List.append_assoc]
    rfl
theorem mergeK_nil {l : List (Key × V)} (h : (l.map (·.1)).Nodup) : mergeK [] l = l := by
  rw [mergeK_app l [] h]
  rfl
end Vw
namespace Vw
open PySem PySem.Spec PyProof.Rows L2
/-! ### comprehensions whose elements are new tuples -/
/-- tuples stand at these places -/
abbrev TupsAt (H : Hp) (qs : List Addr) (vss : List (List V)) : Prop := Paired (fun q vs => H q = some (.tup vs)) qs vss
theorem Paired.imp {α β : Type} {F G : α → β → Prop} (h : ∀ a b, F a b → G a b) : ∀ {l : List α} {m : List β}, Paired F l m → Paired G l m
  | _, _, .nil => .nil
  | _, _, .cons a t => .cons (h _ _ a) (Paired.imp h t)
theorem Paired.app {α β : Type} {F : α → β → Prop} : ∀ {l l' : List α} {m m' : List β}, Paired F l m → Paired F l' m' → Paired F (l ++ l') (m ++ m')
  | _, _, _, _, .nil, h => h
  | _, _, _, _, .cons a t, h => .cons a (Paired.app t h)
theorem TupsAt.keep {H H' : Hp} {qs : List Addr} {vss : List (List V)} (h : TupsAt H qs vss) (k : ∀ b xs, H b = some (.tup xs) → H' b = some (.tup xs)) : TupsAt H' qs vss := Paired.imp (fun q vs e => k q vs e) h
theorem TupsAt.same {H H' : Hp} {qs : List Addr} {vss : List (List V)} (h : TupsAt H qs vss) (s : Same H H') : TupsAt H' qs vss := h.keep fun b xs e => s _ _ e
theorem TupsAt.upd {H : Hp} {D : Addr} {acc : List V} {o : HO} {qs : List Addr} {vss : List (List V)} (h : TupsAt H qs vss) (e : H D = some (.lst acc)) : TupsAt (L2.upd H D o) qs vss := h.keep fun b xs q => by
  rw [upd_ne (fun z => by rw [z, e] at q; cases q)]
  exact q
theorem lc_roT {α : Type} {J : It} {G : Hp → Prop} {Y : Nat → Hp → V → Hp → Prop} (l : List α) (w : Walk J l.length G Y) (f : α → Option (List V)) {g : TG} {tt : TT} {te : TE} {vs : List Nat} {σ : L2.St} {H1 : Hp} {D : Addr} {Qd : Hp → Prop}
    (hn : l.length < sizeLine) (hD : H1 D = none) (hG : ∀ H, Same H1 H → G H)
    (hs : ∀ i a x H H', l[i]? = some a → Same H1 H → Y i H x H' → ∀ (N1 : V → Hp → Prop) (N0 : Hp → Prop), (∀ q us H4, Same H H4 → f a = some us → H4 q = some (.tup us) → N1 (.ref q) H4) → (∀ H3, Same H H3 → f a = none → N0 H3) →
      g x (wipe σ vs) H' fun σ2 H2 => wipe σ2 vs = wipe σ vs ∧ tt σ2 H2 fun b H3 => if b = true then te σ2 H3 N1 else N0 H3)
    (hd : ∀ H qs, Same H1 H → H D = some (.lst (qs.map V.ref)) → TupsAt H qs (l.filterMap f) → Qd H) :
    ∃ W : Nat → Nat → Hp → Prop, (∃ m, W 0 m (upd H1 D (.lst []))) ∧ ∀ i m H, W i m H →
      (J.stop i H ∧ Qd H) ∨ (J.go i H ∧ ∃ Nx : Hp → Prop, (∀ H', Nx H' → ∃ m', m' < m ∧ W (i + 1) m' H') ∧ ∀ x H', J.yld i H x H' → g x (wipe σ vs) H' fun σ2 H2 => wipe σ2 vs = wipe σ vs ∧ tt σ2 H2 fun b H3 =>
        if b = true then te σ2 H3 fun y H4 => ∃ acc, H4 D = some (.lst acc) ∧ acc.length < sizeLine ∧ Nx (upd H4 D (.lst (acc ++ [y]))) else Nx H3) := by
  have new : ∀ {H : Hp} {o : HO}, Same H1 H → Same H1 (upd H D o) := fun {H o} s b u e => by
    rw [upd_ne (ne_of_none e hD)]
    exact s b u e
  refine lc_it w (fun i H => Same H1 H ∧ ∃ qs : List Addr, H D = some (.lst (qs.map V.ref)) ∧ TupsAt H qs ((l.take i).filterMap f)) ⟨new (Same.refl _), [], ?_, ?_⟩ (fun i H _ p => hG H p.1) (fun i x H H' hi p y => ?_) (fun H p => ?_)
  · rw [upd_same]
    rfl
  · simp only [List.take_zero, List.filterMap_nil]
    exact .nil
  · obtain ⟨a, ha⟩ : ∃ a, l[i]? = some a := ⟨l[i], by simp [hi]⟩
    obtain ⟨s1, qs, eD, tq⟩ := p
    refine hs i a x H H' ha s1 y _ _ (fun q us H4 s4 ef eq => ⟨_, s4 _ _ eD, ?_, new (s1.trans s4), qs ++ [q], ?_, ?_⟩) (fun H3 s3 ef => ⟨s1.trans s3, qs, s3 _ _ eD, ?_⟩)
    · have h1 := List.length_filterMap_le f (l.take i)
      have h2 : (l.take i).length ≤ l.length := by rw [List.length_take]; omega
      have h3 := Paired.length tq
      rw [List.length_map]
      omega
    · rw [upd_same, List.map_append]
      rfl
    · rw [filterMap_take f ha, ef]
      exact Paired.app ((tq.same s4).upd (s4 _ _ eD)) (.cons (by rw [upd_ne (fun z => by rw [z, s4 _ _ eD] at eq; cases eq)]; exact eq) .nil)
    · rw [filterMap_take f ha, ef]
      simpa using tq.same s3
  · obtain ⟨s1, qs, eD, tq⟩ := p
    rw [List.take_length] at tq
    exact hd H qs s1 eD tq
section
variable {K : PySem.W.Frag} {te0 : TE} {g : TG} {tt : TT} {te : TE} {vs : List Nat} {σ : L2.St} {H : Hp} {Q : VK}
def TurnT {α : Type} (f : α → Option (List V)) (g : TG) (tt : TT) (te : TE) (vs : List Nat) (σ : L2.St) (H : Hp) (a : α) (x : V) : Prop :=
  ∀ (N1 : V → Hp → Prop) (N0 : Hp → Prop), (∀ q us H4, Same H H4 → f a = some us → H4 q = some (.tup us) → N1 (.ref q) H4) → (∀ H3, Same H H3 → f a = none → N0 H3) →
    g x (wipe σ vs) H fun σ2 H2 => wipe σ2 vs = wipe σ vs ∧ tt σ2 H2 fun b H3 => if b = true then te σ2 H3 N1 else N0 H3
/-- over a list that is made, or stands -/
theorem lcLT {α : Type} {l : List α} (it : α → V) (f : α → Option (List V)) (src : ∀ R : VK, (∀ p H1, Same H H1 → SqL K H1 p (l.map it) → R (.ref p) H1) → te0 σ H R) (hn : l.length < sizeLine)
    (hs : ∀ a H', a ∈ l → Same H H' → TurnT f g tt te vs σ H' a (it a))
    (hd : ∀ D H' qs, H D = none → Same H H' → H' D = some (.lst (qs.map V.ref)) → TupsAt H' qs (l.filterMap f) → Q (.ref D) H') : tLc (iList K te0) g tt te vs σ H Q := by
  refine src _ fun p H1 s1 hp => ⟨p, rfl, ⟨_, hp⟩, fun D hD => ?_⟩
  have w : Walk (Itl K p) l.length (fun H => SqL K H p (l.map it)) (YAt (l.map it)) := by
    have w := walk_list (K := K) (a := p) (xs := l.map it)
    rw [List.length_map] at w
    exact w
  refine lc_roT l w f hn hD (fun H' s => s.seq hp) (fun i a x H2 H3 ha s2 y => ?_) (fun H' qs s2 e t => hd D H' qs (s1.free hD) (s1.trans s2) e t)
  obtain ⟨rfl, hx⟩ := y
  have e : x = it a := by
    rw [List.getElem?_map, ha] at hx
    exact (Option.some.inj hx).symm
  subst e
  exact hs a _ (List.mem_of_getElem? ha) (s1.trans s2)
/-- over a dict's keys, under its lock -/
theorem lcKT {α : Type} {l : List α} {d : Addr} (kv : α → Key × V) (f : α → Option (List V)) (hk : H d = some (.dK (l.map kv))) (src : ∀ (H' : Hp) (R : VK), (∀ b o, b ≠ d → H b = some o → H' b = some o) → R (.ref d) H' → te0 σ H' R) (hn : l.length < sizeLine)
    (hs : ∀ a H' od, a ∈ l → (∀ b o, b ≠ d → H b = some o → H' b = some o) → H' d = some (.frz od (.dK (l.map kv))) → TurnT f g tt te vs σ H' a (kV (kv a).1))
    (hd : ∀ D H' qs, H D = none → Same H H' → H' D = some (.lst (qs.map V.ref)) → TupsAt H' qs (l.filterMap f) → Q (.ref D) H') : tLockE (tLc (iKeys te0) g tt te vs) σ H Q := by
  refine ⟨d, _, hk, trivial, fun od => ?_⟩
  have un : ∀ H', Same (upd H d (.frz od (.dK (l.map kv)))) H' → ∀ b o, b ≠ d → H b = some o → H' b = some o := fun H' s b o hb e => s b o (by rw [upd_ne hb]; exact e)
  refine src _ _ (un _ (Same.refl _)) ⟨d, od, rfl, .inl ⟨_, upd_same, fun D hD => ?_⟩⟩
  have nD : D ≠ d := fun z => by
    rw [z, upd_same] at hD
    cases hD
  have w : Walk (Itk d od (l.map kv)) l.length (fun H => H d = some (.frz od (.dK (l.map kv)))) (fun i H x H' => H' = H ∧ ∃ k v, (l.map kv)[i]? = some (k, v) ∧ x = kV k) := by
    have w := walk_keys (d := d) (o := od) (kvs := l.map kv)
    rw [List.length_map] at w
    exact w
  refine lc_roT l w f hn hD (fun H' s => s _ _ upd_same) (fun i a x H2 H3 ha s2 y => ?_) (fun H' qs s2 e t => ⟨s2 _ _ upd_same, hd D _ qs (by rw [upd_ne nD] at hD; exact hD) (Same.lock hk s2) (by rw [upd_ne nD]; exact e) (t.keep fun b xs q => by
    rw [upd_ne (fun z => by rw [z, s2 _ _ upd_same] at q; cases q)]
    exact q)⟩)
  obtain ⟨rfl, k, v, hx, rfl⟩ := y
  have e : (k, v) = kv a := by
    rw [List.getElem?_map, ha] at hx
    exact (Option.some.inj hx).symm
  have e1 : k = (kv a).1 := congrArg Prod.fst e
  rw [e1]
  exact hs a _ od (List.mem_of_getElem? ha) (un _ s2) (s2 _ _ upd_same)
end
/-- for over a dict's keys, under its lock -/
theorem forK {α : Type} {te0 : TE} {g : TG} {tb : TS} {D : Ends} {σ : L2.St} {H : Hp} {l : List α} {d : Addr} (kv : α → Key × V) (hk : H d = some (.dK (l.map kv))) (src : ∀ (H' : Hp) (R : VK), (∀ b o, b ≠ d → H b = some o → H' b = some o) → R (.ref d) H' → te0 σ H' R)
    (Pv : Obj → Nat → L2.St → Hp → Prop) (h0 : ∀ od H', (∀ b o, b ≠ d → H b = some o → H' b = some o) → (∀ b o, b ≠ d → H' b = some o → H b = some o) → H' d = some (.frz od (.dK (l.map kv))) → Pv od 0 σ H') (hG : ∀ od i σ' H', i ≤ l.length → Pv od i σ' H' → H' d = some (.frz od (.dK (l.map kv))))
    (hs : ∀ od i a σ' H' (D' : Ends), l[i]? = some a → Pv od i σ' H' → (∀ σ2 H2, Pv od (i + 1) σ2 H2 → D'.nx σ2 H2) → (∀ σ2 H2, Pv od (i + 1) σ2 H2 → D'.ct σ2 H2) → (∀ v H2, H2 d = some (.frz od (.dK (l.map kv))) → D.rt v (upd H2 d (.dK (l.map kv))) → D'.rt v H2) →
      g (kV (kv a).1) σ' H' fun σ2 H2 => tb D' σ2 H2)
    (hd : ∀ od σ' H', Pv od l.length σ' H' → D.nx σ' (upd H' d (.dK (l.map kv)))) : tLock (tFor (iKeys te0) g tb) D σ H := by
  refine ⟨d, _, hk, trivial, fun od => ?_⟩
  have un : ∀ b o, b ≠ d → H b = some o → upd H d (.frz od (.dK (l.map kv))) b = some o := fun b o hb e => by rw [upd_ne hb]; exact e
  have nu : ∀ b o, b ≠ d → upd H d (.frz od (.dK (l.map kv))) b = some o → H b = some o := fun b o hb e => by rw [upd_ne hb] at e; exact e
  refine src _ _ un ⟨d, od, rfl, .inl ⟨_, upd_same, ?_⟩⟩
  have w : Walk (Itk d od (l.map kv)) l.length (fun H => H d = some (.frz od (.dK (l.map kv)))) (fun i H x H' => H' = H ∧ ∃ k v, (l.map kv)[i]? = some (k, v) ∧ x = kV k) := by
    have w := walk_keys (d := d) (o := od) (kvs := l.map kv)
    rw [List.length_map] at w
    exact w
  refine for_it w (Pv od) (h0 od _ un nu upd_same) (hG od) (fun i x σ' H2 H3 hi p1 y => ?_) (fun σ' H' p => ⟨hG od _ σ' H' (Nat.le_refl _) p, hd od σ' H' p⟩)
  obtain ⟨rfl, k, v, hx, rfl⟩ := y
  obtain ⟨a, ha⟩ : ∃ a, l[i]? = some a := ⟨l[i], by simp [hi]⟩
  have e : (k, v) = kv a := by
    rw [List.getElem?_map, ha] at hx
    exact (Option.some.inj hx).symm
  have e1 : k = (kv a).1 := congrArg Prod.fst e
  rw [e1]
  exact hs od i a σ' _ _ ha p1 (fun _ _ h => h) (fun _ _ h => h) (fun v H2 h1 h2 => ⟨h1, h2⟩)
/-- for over a list that is made right there -/
theorem forN2 {α : Type} {K : PySem.W.Frag} {te0 : TE} {g : TG} {tb : TS} {D : Ends} {σ : L2.St} {H : Hp} {l : List α} (it : α → V) (src : ∀ R : VK, New (.lst (l.map it)) H R → te0 σ H R)
    (Pv : Addr → Nat → L2.St → Hp → Prop) (h0 : ∀ p H1, H p = none → Same H H1 → H1 p = some (.lst (l.map it)) → Pv p 0 σ H1) (hG : ∀ p i σ' H', i ≤ l.length → Pv p i σ' H' → SqL K H' p (l.map it))
    (hs : ∀ p i a σ' H' (D' : Ends), l[i]? = some a → Pv p i σ' H' → (∀ σ2 H2, Pv p (i + 1) σ2 H2 → D'.nx σ2 H2) → (∀ σ2 H2, Pv p (i + 1) σ2 H2 → D'.ct σ2 H2) → D'.rt = D.rt → D'.bk = D.nx → g (it a) σ' H' fun σ2 H2 => tb D' σ2 H2)
    (hd : ∀ p σ' H', Pv p l.length σ' H' → D.nx σ' H') : tFor (iList K te0) g tb D σ H := by
  refine src _ fun p H1 n1 s1 e1 => ⟨p, rfl, ⟨_, SqL.of e1⟩, ?_⟩
  have w : Walk (Itl K p) l.length (fun H => SqL K H p (l.map it)) (YAt (l.map it)) := by
    have w := walk_list (K := K) (a := p) (xs := l.map it)
    rw [List.length_map] at w
    exact w
  refine for_it w (Pv p) (h0 p H1 n1 s1 e1) (hG p) (fun i x σ' H2 H3 hi p1 y => ?_) (hd p)
  obtain ⟨rfl, hx⟩ := y
  obtain ⟨a, ha⟩ : ∃ a, l[i]? = some a := ⟨l[i], by simp [hi]⟩
  have e : x = it a := by
    rw [List.getElem?_map, ha] at hx
    exact (Option.some.inj hx).symm
  subst e
  exact hs p i a σ' _ _ ha p1 (fun _ _ h => h) (fun _ _ h => h) rfl rfl
theorem SqL.updL {K : PySem.W.Frag} {H : Hp} {p f : Addr} {xs : List V} {o : HO} (h : SqL K H p xs) (n : p ≠ f) : SqL K (upd H f o) p xs := by
  rcases h with (h | ⟨u, h⟩) | h
  · exact .inl (.inl (by rw [upd_ne n]; exact h))
  · exact .inl (.inr ⟨u, by rw [upd_ne n]; exact h⟩)
  · exact .inr h
theorem filterMap_fun {α β : Type} (l : List α) (f : α → β) : (l.filterMap fun a => some (f a)) = l.map f := congrFun List.filterMap_eq_map' l
end Vw
namespace Vw
open PySem PySem.Spec PyProof.Rows L2
/-! ### a list comprehension whose element may be refused -/
/-- the block of a comprehension with a wish of its own about exceptions -/
abbrev blkX (X : Cx) (s : Shared) (H : Hp) (scope : Scope) (ce : Env) (fp : List Addr) (xe : Value → Shared → Prop) : Cx := { X.blk s H scope ce fp with xe := xe }
theorem okX {X : Cx} {xe : Value → Shared → Prop} (o : X.Ok) : ({ X with xe := xe } : Cx).Ok :=
  ⟨o.mod, o.kind, o.glob, o.blt, o.above, o.inj, o.has, o.cab, o.hd, o.frames, o.stk, o.exf, o.bs, o.bsz, o.noex, o.exfs, o.funs, o.frf⟩
theorem invX {X : Cx} {xe : Value → Shared → Prop} {pins : List (Addr × Obj)} {σ : L2.St} {H : Hp} {s : Shared} (I : Inv X pins σ H s) : Inv ({ X with xe := xe } : Cx) pins σ H s :=
  ⟨okX I.ok, I.os, I.bare, I.base, I.loc, I.cell, I.free, I.freeC, I.pin, I.hok, I.len⟩
/-- what a call let out, in the air, and the state without it -/
theorem callF {X : Cx} {pins : List (Addr × Obj)} {σ : L2.St} {H : Hp} {s t : Shared} {E : XK} {u : Value} (I : Inv X pins σ H s) (c : L2N.CX X.prog X.w X.stack H s E u t) :
    ∃ (a : Addr) (B : Heap) (r : Shared) (H' : Hp) (cls : Value) (d : Option Addr), u = .ref a ∧ Inv X pins σ H' r ∧ (∀ b o, r.heap.get? b = some o → b ∉ frs X.stack → B.get? b = some o) ∧ r.heap.UpToSlots t.heap ∧
      HandSPX.FlyingZ B X.stack a (L2N.Zn cls d) t.heap ∧ H' a = none ∧ t.os = r.os ∧ AllBare t.gens ∧ E cls d H' := by
  obtain ⟨a, B, H', cls, d, rfl, fly, ground, un, na, os, ag, wish⟩ := c
  obtain ⟨G, inG, outG⟩ := restrict t.heap fun b => (B.get? b).isSome || decide (b ∈ frs X.stack)
  have stays := fly.1
  have ofB : ∀ {b o}, B.get? b = some o → G.get? b = some o := fun {b o} e => (inG b (by simp [e])).trans (stays b o e)
  have ofF : ∀ {b}, b ∈ frs X.stack → G.get? b = t.heap.get? b := fun {b} hb => inG b (by simp [hb])
  have back : ∀ {b o}, G.get? b = some o → t.heap.get? b = some o ∧ ((B.get? b).isSome = true ∨ b ∈ frs X.stack) := fun {b o} e => by
    cases c : ((B.get? b).isSome || decide (b ∈ frs X.stack)) with
    | true => exact ⟨(inG b c).symm.trans e, by simpa [Bool.or_eq_true] using c⟩
    | false =>
      rw [outG b c] at e
      cases e
  refine ⟨a, B, { s with heap := G, gens := t.gens, drawn := t.drawn, toks := t.toks }, H', cls, d, rfl, ?_, fun b o e hb => ?_, Heap.UpToSlots.of_keeps fun b o e => (back e).1, fly, na, os, ag, wish⟩
  · refine I.call (ch := []) ⟨fun b o e n hb _ => ofB (un.keep b o e n hb), fun b o e n hb _ => ?_, fun b o e n _ => un.free b o e n, fun b o e _ => ?_, un.tups, un.frzs, un.tbls⟩ (ground.kept fun _ _ e => ofB e) ag (fun _ z => nomatch z)
    · obtain ⟨sl, e'⟩ := un.slot b o e hb
      exact ⟨sl, (ofF hb).trans e'⟩
    · by_cases c : b ∈ frs X.stack
      · obtain ⟨sl, e'⟩ := un.slot b o e c
        exact ⟨_, (ofF c).trans e'⟩
      · obtain ⟨o', e'⟩ := un.there b o e c
        exact ⟨o', ofB e'⟩
  · obtain ⟨e', h⟩ := back e
    rcases h with h | h
    · obtain ⟨o', q⟩ := Option.isSome_iff_exists.mp h
      have := stays b o' q
      rw [e'] at this
      cases this
      exact q
    · exact absurd h hb
theorem frames_keep {B h h2 : Heap} : ∀ {l : List Env}, h.FunFrames B l → (∀ b ∈ frs l, ∀ o, h.get? b = some o → h2.get? b = some o) → h2.FunFrames B l
  | [], _, _ => trivial
  | env :: l, ⟨hk, ⟨L, o, hf, hb, ho, hd⟩, hr⟩, k =>
    ⟨hk, ⟨L, o, hf, hb, k L (List.mem_filterMap.mpr ⟨env, List.mem_cons_self, hf⟩) o ho, hd⟩, frames_keep hr fun b hb => by
      obtain ⟨e, he, hq⟩ := List.mem_filterMap.mp hb
      exact k b (List.mem_filterMap.mpr ⟨e, List.mem_cons_of_mem _ he, hq⟩)⟩
/-- an exception leaves the block: it is noted, the block's names go, it flies on in the def -/
theorem leaves_block {X : Cx} {pins pins' : List (Addr × Obj)} {σ σ' : L2.St} {H0 H : Hp} {s0 s t : Shared} {scope : Scope} {ce : Env} {fp : List Addr} {xe : Value → Shared → Prop} {E : XK} {u : Value}
    (hs : X.stack = X.env :: X.outer) (hf : X.env.frame = some X.env.locals) (tk : L2N.Takes X fun cls d _ H => E cls d H) (I0 : Inv X pins σ H0 s0) (cf : ce.frame = X.env.frame) (cl : ce.locals = s0.heap.objs.size)
    (f0 : ∀ b ∈ fp, FpOk X pins H0 b ∧ b < s0.heap.objs.size) (I : Inv (blkX X s0 H0 scope ce fp xe) pins' σ' H s) (c : L2N.CX X.prog X.w X.stack H s E u t) :
    notedBy (model X.prog X.w) X.A ce (CompFails (model X.prog X.w) X.A X.xe ce) u t := by
  obtain ⟨a, B, r, H', cls, d, rfl, J, nb, up, fly, na, os, ag, wish⟩ := callF I c
  have frames : X.A.frames = some (X.env :: X.outer) := by rw [I0.ok.frames, hs]
  have note : noteFrame (.ref a) ce = noteFrame (.ref a) X.env := by
    unfold noteFrame PySem.frameOf
    rw [cf]
  show wpAny _ _ (noteFrame (.ref a) ce) _ _ _
  rw [note]
  have fly' : HandSPX.FlyingZ B (X.env :: X.outer) a (L2N.Zn cls d) t.heap := by rw [← hs]; exact fly
  refine PXN.looks_onZ L2N.Zn.steady frames hf fly' fun h1 held up1 => ?_
  have J1 : Inv (blkX X s0 H0 scope ce fp xe) pins' σ' H' { t with heap := h1 } := J.landed nb held.1 (up.trans up1) os ag
  obtain ⟨m, hn, _⟩ := J1.loc
  refine ⟨m, hn, fun h2 m2 hn2 sb => ?_⟩
  obtain ⟨k1, k2, k3, oe, vs, T, oT, ts, he, hz, hd, h1v, hnT, hTe, hT, hdT, h3⟩ := held
  have dict : ∀ {b o vs}, h1.get? b = some o → o.data = .fields vs → b ≠ ce.locals := fun {b o vs} e dd z => by
    obtain ⟨oc, es, ep, ec, dc, _⟩ := (show h1.Ns ce.locals m from hn)
    rw [z, ec] at e
    cases e
    rw [dc] at dd
    cases dd
  have ac := dict he hd
  have Tc := dict hT hdT
  have old : ∀ {b o}, b ≠ ce.locals → h1.get? b = some o → h2.get? b = some o := fun {b o} n e => (sb.2 b n).trans e
  have he2 := old ac he
  have hT2 := old Tc hT
  -- the heap without the block's names
  have hideB : ∀ {b o}, (PySem.W.hideAll B [ce.locals]).get? b = some o → B.get? b = some o ∧ b ≠ ce.locals := fun {b o} e =>
    ⟨PySem.W.of_hideAll _ e, fun z => by
      rw [PySem.W.hideAll_none _ (by rw [z]; simp)] at e
      cases e⟩
  have hideNone : ∀ {b}, B.get? b = none → (PySem.W.hideAll B [ce.locals]).get? b = none := fun {b} e => by
    cases q : (PySem.W.hideAll B [ce.locals]).get? b with
    | none => rfl
    | some o =>
      rw [(hideB q).1] at e
      cases e
  have st2 : (PySem.W.hideAll B [ce.locals]).StaysIn h2 := fun b o e => by
    obtain ⟨e1, n⟩ := hideB e
    exact old n (k1 b o e1)
  have notFrame : ∀ {b}, b ∈ frs (X.env :: X.outer) → b ≠ ce.locals := fun {b} hb z => by
    have hb2 : b ∈ frs X.stack := by rw [hs]; exact hb
    rcases List.mem_cons.mp (I0.stkSub b hb2) with q | q
    · have := I0.lt
      rw [← q, z, cl] at this
      exact Nat.lt_irrefl _ this
    · exact (I0.fpOk (H' := H0) (b := ce.locals) (Nat.le_of_eq cl.symm) (I0.hok.fresh (Nat.le_of_eq cl.symm))).2.2.1 (by rw [← z]; exact q)
  have ff2 : h2.FunFrames (PySem.W.hideAll B [ce.locals]) (X.env :: X.outer) := by
    have ff1 : h1.FunFrames (PySem.W.hideAll B [ce.locals]) (X.env :: X.outer) := funFrames_none k3 fun b hb => hideNone (k3.mem hb).1
    exact frames_keep ff1 fun b hb o e => old (notFrame hb) e
  have tr2 : HandSPX.TracedZ h2 (PySem.W.hideAll B [ce.locals]) a (L2N.Zn cls d) (rawInt X.env.locals) := ⟨oe, vs, T, oT, ts, he2, hz, hd, h1v, hideNone hnT, hTe, hT2, hdT, h3⟩
  -- the def's own state, without the exception
  have nC : H' ce.locals = none := J.free
  have I1 : Inv X pins σ H' r := I0.call' (ch := fp) J.os J.base J.hok J.bare fun b hb => ⟨(f0 b hb).1.2.2.2.1, (f0 b hb).1.2.1, (f0 b hb).1.2.2.2.2.1, (f0 b hb).1.2.2.2.2.2⟩
  obtain ⟨g0, g1, g2, g3, g4, g5⟩ := I0.fpOk (H' := H') (b := ce.locals) (Nat.le_of_eq cl.symm) nC
  have I2 : Inv X pins σ H' { r with heap := PySem.W.hideAll r.heap [ce.locals] } := I1.turned (t' := r.toks) (fun b o hb e => PySem.W.hideAll_get _ e (by simpa using hb)) g0 g1 g3 g4 g5
  unfold PySem.passOn
  refine wpAny_bind (wpAny_field he2 hd h1v ?_)
  rw [if_neg (show ¬ ((Value.ref T == Value.none) = true) from by simp)]
  have fin : wpAny (model X.prog X.w) X.A (setFlight (.ref a) ce.frame) (fun _ s4 => wpAny (model X.prog X.w) X.A (throw (.ref a) : Sem Value) (fun _ _ => False) X.xe s4) X.xe { t with heap := h2 } := by
    rw [cf, hf]
    refine HandSPX.setFlight_anyZ (s := { t with heap := h2 }) (fr := some X.env.locals) st2 ff2 tr2 fun h4 q1 q2 q3 up4 => wpAny_throw (tk _ _ ?_)
    refine ⟨a, PySem.W.hideAll B [ce.locals], { r with heap := PySem.W.hideAll r.heap [ce.locals] }, pins, σ, H', cls, d, rfl, I2, fun b o e hb => ?_, fun b o e hnf => ?_, .inr (.inr ?_), na, os, ag, wish⟩
    · have e1 := PySem.W.of_hideAll _ e
      refine PySem.W.hideAll_get _ (nb b o e1 hb) fun z => ?_
      rw [PySem.W.hideAll_none _ z] at e
      cases e
    · have n : b ≠ ce.locals := fun z => by
        rw [PySem.W.hideAll_none _ (by rw [z]; simp)] at e
        cases e
      obtain ⟨sl, e1⟩ := (up.trans up1) b o (PySem.W.of_hideAll _ e) hnf
      have e2 := old n e1
      obtain ⟨sl2, e3⟩ := up4 b _ e2 hnf
      exact ⟨sl2, e3⟩
    · rw [hs]
      exact ⟨q1, hideNone k2, q2, q3⟩
  first
    | exact wpAny_bind (wpAny_pure (wpAny_bind fin))
    | exact wpAny_bind fin
theorem then_ {α : Type} {M : Model} {A : Around} {m : Sem α} {P Q : α → Shared → Prop} {E : Value → Shared → Prop} {s : Shared} (h : wpAny M A m P E s) (k : ∀ a s, P a s → Q a s) : wpAny M A m Q E s := wpAny_mono h k fun _ _ z => z
theorem never_ {α : Type} {M : Model} {A : Around} {m : Sem α} {P Q : α → Shared → Prop} {E : Value → Shared → Prop} {s : Shared} (h : wpAny M A m P (fun _ _ => False) s) (k : ∀ a s, P a s → Q a s) : wpAny M A m Q E s := wpAny_mono h k fun _ _ z => z.elim
/-- [elt for target in iter if ..], the element may be refused: what it lets out goes on out of the def -/
theorem pe_lcE {X : Cx} {E : XK} {elt tg iter : Expr} {ifs : List Expr} {scope : Scope} {own : List (Str × Nat)} {pos : Pos} {wi : TI} {g : TG} {tt : TT} {te : TE} (calm : X.calm = true) (nd : X.N.Nodup) (hs : X.stack = X.env :: X.outer) (hf : X.env.frame = some X.env.locals)
    (tk : L2N.Takes X fun cls d _ H => E cls d H) (hi : PI X tg iter wi) (ok : BlkOk X.N X.env.scope scope own)
    (pg : ∀ (s : Shared) (H : Hp) (C : Addr) (cl : List (Str × Addr)) (fp : List Addr) (xe : Value → Shared → Prop), PG (blkX X s H scope (compEnvC scope cl C X.env) fp xe) tg g)
    (pt : ∀ (s : Shared) (H : Hp) (C : Addr) (cl : List (Str × Addr)) (fp : List Addr) (xe : Value → Shared → Prop), PTs (blkX X s H scope (compEnvC scope cl C X.env) fp xe) ifs tt)
    (pe : ∀ (s : Shared) (H : Hp) (C : Addr) (cl : List (Str × Addr)) (fp : List Addr) (xe : Value → Shared → Prop), Passes (L2N.CX X.prog X.w) (blkX X s H scope (compEnvC scope cl C X.env) fp xe) E → PE (blkX X s H scope (compEnvC scope cl C X.env) fp xe) elt te)
    (plain : ∀ x, foldedSetIterable iter X.env x = pure x := by intro _; rfl) :
    PE X (.ListComp elt [⟨tg, iter, ifs, 0⟩] scope pos) (tLc wi g tt te (own.map (·.2))) := by
  refine ⟨fun pins s σ H Q I h => ?_⟩
  rw [eval_ListComp]
  have caught : ∀ y ∈ scope.names, y.2 = .free → ∃ c, X.env.cells.lookup y.1 = some c := fun y hy e => I.ok.has _ (ok.free y hy e)
  refine comprehension_at (use := none) rfl plain (closure_ok caught) ok.kind (fun y hy e => (ok.uniq y hy).trans (by rw [e])) ?_
  refine then_ (hi.run pins s σ H _ I h) fun _ s1 h1 => then_ h1 fun _ s2 h2 => ?_
  obtain ⟨it, fp, at_, J, H2, rfl, I2, turns, at0, fpo, q⟩ := h2
  refine wpAny_newObj_type (newEnv_comp ?_) (Nat.zero_le _)
  generalize eD : s2.heap.objs.size = D
  obtain ⟨W, ⟨m0, w0⟩, turn⟩ := q D (I2.hok.fresh (Nat.le_of_eq eD))
  generalize e3 : ({ s2 with heap := s2.heap.push { cls := .type "list", data := .seq ([] : List Value).toArray } } : Shared) = s3
  have hp3 : s3.heap = s2.heap.push { cls := .type "list", data := .seq ([] : List Value).toArray } := by rw [← e3]
  have I3 : Inv X pins σ (upd H2 D (.lst [])) s3 := by
    subst e3
    exact I2.laid (t' := s2.toks) (fun _ _ e => Heap.get?_push_of_some _ e) (Nat.le_of_eq eD) ⟨Nat.zero_le _, [], 0, .nil, eD ▸ Heap.get?_push_size _ rfl⟩
  have small : ∀ b ∈ fp, b < s2.heap.objs.size := fun b hb => let ⟨_, e, _⟩ := turns.obj _ _ at0 b hb; Heap.lt_size e
  have fp3 : ∀ b ∈ fp, FpOk X pins (upd H2 D (.lst [])) b ∧ b < s3.heap.objs.size := fun b hb => by
    refine ⟨⟨?_, (fpo b hb).2⟩, ?_⟩
    · rw [upd_ne (fun z => Nat.lt_irrefl _ (by have := small b hb; rw [z, ← eD] at this; exact this))]
      exact (fpo b hb).1
    · rw [hp3, Heap.size_push]
      exact Nat.lt_succ_of_lt (small b hb)
  have at3 : at_ 0 s3.heap := turns.keep _ _ _ at0 fun b _ o e => by rw [hp3]; exact Heap.get?_push_of_some _ e
  have I4 := block_start I3 ok nd fp3
  have free3 : ∀ b ∈ fp, upd H2 D (.lst []) b = none := fun b hb => (fp3 b hb).1.1
  generalize eH : upd H2 D (.lst []) = H3 at I3 I4 w0 free3 fp3
  generalize eC : s3.heap.objs.size = C at I4
  generalize ecl : cellsFrom (C + 1) scope.names (cloFrom X.env.cells scope.names []) = cl at I4
  have lC : (compEnvC scope cl C X.env).locals = s3.heap.objs.size := eC.symm
  have pass : ∀ xe, xe = notedBy (model X.prog X.w) X.A (compEnvC scope cl C X.env) (CompFails (model X.prog X.w) X.A X.xe (compEnvC scope cl C X.env)) → Passes (L2N.CX X.prog X.w) (blkX X s3 H3 scope (compEnvC scope cl C X.env) fp xe) E := fun xe hx pins' σ' H' s' e t I' c => by
    show xe e t
    rw [hx]
    exact leaves_block hs hf tk I3 rfl lC fp3 I' c
  generalize hxe : notedBy (model X.prog X.w) X.A (compEnvC scope cl C X.env) (CompFails (model X.prog X.w) X.A X.xe (compEnvC scope cl C X.env)) = xe at pass
  have I4 := invX (xe := xe) I4
  have pg := pg s3 H3 C cl fp xe
  have pt := pt s3 H3 C cl fp xe
  have pe := pe s3 H3 C cl fp xe (pass xe rfl)
  show codeAny _ _ (.compStart (.ListComp elt [⟨tg, iter, ifs, 0⟩] scope pos) 0 (.ref it) (.ref D) (compEnvC scope cl C X.env)) (compEnds (model X.prog X.w) X.A X.xe none (EP X pins σ Q) (.ref D) (compEnvC scope cl C X.env)) { s3 with heap := pushCells (s3.heap.push { cls := .type "dict", data := .dict #[] }) scope.names }
  generalize e4 : ({ s3 with heap := pushCells (s3.heap.push { cls := .type "dict", data := .dict #[] }) scope.names } : Shared) = s4 at I4 ⊢
  have at4 : at_ 0 s4.heap := turns.keep _ _ _ at3 fun b _ o e => by
    rw [← e4]
    exact pushCells_keeps _ _ _ _ (Heap.get?_push_of_some _ e)
  have fpB : ∀ {σ' : L2.St} {H' : Hp} {s' : Shared}, Inv (blkX X s3 H3 scope (compEnvC scope cl C X.env) fp xe) [] σ' H' s' → (∀ b ∈ fp, H' b = none) → ∀ b ∈ fp, FpOk (blkX X s3 H3 scope (compEnvC scope cl C X.env) fp xe) [] H' b := fun {σ' H' s'} I' n b hb =>
    ⟨n b hb, (I'.ok.exf b hb).1, I'.ok.exfs b hb, .inl hb, (I'.ok.exf b hb).2, fun p hp => by
      have hp : p ∈ ([] : List (Addr × Obj)) := by simpa using hp
      cases hp⟩
  have loop : codeAny (model X.prog X.w) X.A (.compLoop (.ListComp elt [⟨tg, iter, ifs, 0⟩] scope pos) 0 (.ref it) (.ref D) (compEnvC scope cl C X.env)) (compEnds (model X.prog X.w) X.A X.xe none (EP X pins σ Q) (.ref D) (compEnvC scope cl C X.env)) s4 := by
    refine compLoop_any (fun n s' => ∃ i H', Inv (blkX X s3 H3 scope (compEnvC scope cl C X.env) fp xe) [] (wipe σ (own.map (·.2))) H' s' ∧ at_ i s'.heap ∧ (∀ b ∈ fp, H' b = none) ∧ W i n H') ?_ m0 ⟨0, H3, I4, at4, free3, w0⟩
    have err : ∀ e s', xe e s' → notedBy (model X.prog X.w) X.A (compEnvC scope cl C X.env) (fun e s' => compEnds (model X.prog X.w) X.A X.xe none (EP X pins σ Q) (.ref D) (compEnvC scope cl C X.env) (.error e) s') e s' := fun e s' z => by
      rw [← hxe] at z
      exact z
    rintro n s5 ⟨i, H5, I5, at5, n5, w5⟩
    rcases turn i n H5 w5 with ⟨stop, qq⟩ | ⟨go, Nx, less, step⟩
    · refine never_ (turns.done (blkX X s3 H3 scope (compEnvC scope cl C X.env) fp xe) rfl rfl rfl calm i [] s5 _ H5 (fun _ _ => False) I5 (fpB I5 n5) at5 stop) fun r s6 h6 => ?_
      obtain ⟨rfl, I6⟩ := h6
      have I7 : Inv X pins σ H5 s6 := I3.call' (ch := fp) I6.os I6.base I6.hok I6.bare fun b hb => ⟨(fp3 b hb).1.2.2.2.1, (fp3 b hb).1.2.1, (fp3 b hb).1.2.2.2.2.1, (fp3 b hb).1.2.2.2.2.2⟩
      have nC : H5 C = none := I6.free
      obtain ⟨m, hn, _⟩ := I6.loc
      obtain ⟨g0, g1, g2, g3, g4, g5⟩ := I3.fpOk (H' := H5) (b := C) (Nat.le_of_eq eC) nC
      exact ⟨m, hn, fun h' sb => ⟨.ref D, H5, I7.turned (t' := s6.toks) (fun b o hb e => (sb.2 b hb).trans e) g0 g1 g3 g4 g5, rfl, qq⟩⟩
    · refine never_ (turns.item (blkX X s3 H3 scope (compEnvC scope cl C X.env) fp xe) rfl rfl rfl calm i [] s5 _ H5 (fun _ _ => False) I5 (fpB I5 n5) at5 go) fun r s6 h6 => ?_
      obtain ⟨u, rfl, h6⟩ := h6
      refine never_ h6 fun _ s7 h7 => ?_
      obtain ⟨x, H7, I7, r7, y7, at7, n7⟩ := h7
      have P7 := I7.pinned (fpB I7 n7) (turns.obj _ _ at7)
      refine wpAny_mono (pg.run _ s7 _ H7 x u _ P7 r7 (step x H7 y7)) (fun _ s8 h8 => ?_) err
      obtain ⟨σ8, H8, I8, same8, q8⟩ := h8
      refine wpAny_mono (pt.run _ s8 σ8 H8 _ I8 q8) (fun yes s9 h9 => ?_) err
      obtain ⟨H9, I9, q9⟩ := h9
      have close : ∀ {s' : Shared} {H' : Hp}, Inv (blkX X s3 H3 scope (compEnvC scope cl C X.env) fp xe) ([] ++ pinsAt fp s7.heap) σ8 H' s' → Nx H' →
          ∃ m, m < n ∧ ∃ i H', Inv (blkX X s3 H3 scope (compEnvC scope cl C X.env) fp xe) [] (wipe σ (own.map (·.2))) H' s' ∧ at_ i s'.heap ∧ (∀ b ∈ fp, H' b = none) ∧ W i m H' := fun {s' H'} I' nx => by
        obtain ⟨m', lt, w'⟩ := less H' nx
        have stay : ∀ b ∈ fp, ∀ o, s7.heap.get? b = some o → s'.heap.get? b = some o ∧ H' b = none := fun b hb o e => by
          have := I'.pin (b, o) (List.mem_append_right _ (List.mem_append_right _ (mem_pinsAt hb e)))
          exact ⟨this.1, this.2.1⟩
        refine ⟨m', lt, i + 1, H', (I'.unpinned (pins := [])).weak (by rw [← same8, wipe_length]) (fun j v e => ?_), turns.keep _ _ _ at7 fun b hb o e => (stay b hb o e).1, fun b hb => ?_, w'⟩
        · rw [← same8] at e
          exact (wipe_some e).1
        · obtain ⟨o, e, _⟩ := turns.obj _ _ at7 b hb
          exact (stay b hb o e).2
      cases yes with
      | false =>
        simp only [Bool.false_eq_true, if_false] at q9 ⊢
        exact close I9 q9
      | true =>
        simp only [if_true] at q9 ⊢
        refine wpAny_mono (pe.run _ s9 σ8 H9 _ I9 q9) (fun v s10 h10 => ?_) err
        obtain ⟨y, H10, I10, r10, acc, hD, hz, nx⟩ := h10
        exact app_ok (X := blkX X s3 H3 scope (compEnvC scope cl C X.env) fp xe) I10 hD hz r10 fun s11 I11 => close I11 nx
  exact codeAny_compStart_list loop (turns.self X.A 0 _ _ _ at4 loop)
end Vw
namespace Vw
open PySem PySem.Spec PyProof.Rows L2
/-! ### an attribute as one of several targets -/
def gFld (K : PySem.W.Frag) (ta : TE) (f : Str) : TG := fun v σ H Q => ta σ H fun x H1 => ∃ a C dx fs, x = .ref a ∧ H1 a = some (.ins C dx fs) ∧ Cls K C ∧ NoAttr K C f ∧ fs.length < 1000 ∧ Q σ (upd H1 a (.ins C dx (putF f v fs)))
theorem pg_fld {X : Cx} {o : Expr} {f : Str} {ta : TE} {pos : Pos} (ho : PE X o ta) : PG X (.Attribute o f pos) (gFld X.K ta f) := by
  refine ⟨fun pins s σ H v u Q I r h => ?_⟩
  rw [assign_Attribute]
  refine wpAny_bind (wpAny_holding (then_ (ho.run pins s σ H _ I h) fun ov s1 h1 => ?_))
  obtain ⟨x, H1, I1, rx, a, C, dx, fs, rfl, ea, c, n, l, q⟩ := h1
  obtain rfl : ov = Value.ref a := rx
  refine wpAny_bind (wpAny_standAt (wpAny_bind (wpAny_holding (setattr_ok I1 ea c n l r fun s3 I3 => ?_))))
  exact wpAny_release ⟨σ, _, I3, q⟩
/-! ### max of a dict whose keys are whole numbers -/
def rMaxK : List V → Hp → VK → Prop := fun xs H Q => ∃ (a : Addr) (kvs : List (Key × V)) (ns : List Int), xs = [.ref a] ∧ Rd H a (.dK kvs) ∧ kvs.map (·.1) = ns.map Sum.inl ∧ 0 < ns.length ∧ ∀ m, m ∈ ns → (∀ y, y ∈ ns → y ≤ m) → Q (.int m) H
theorem cr_maxK {X : Cx} (hc : X.calm = true) : CallR X (.builtin "max") rMaxK := by
  intro pins s σ H xs us Q I r h
  obtain ⟨a, kvs, ns, rfl, hd, hks, hne, q⟩ := h
  rw [Vals.ref1 r]
  obtain ⟨_, lo, vs, rel, dd⟩ := dk_rd I.hok hd
  obtain ⟨ep, at_⟩ := dd.dictAt
  have ek : vs.map (·.1) = ns.map Sum.inl := rel.keys.symm.trans hks
  have el : vs.length = ns.length := by
    have := congrArg List.length ek
    rwa [List.length_map, List.length_map] at this
  have less : a < s.heap.objs.size := let ⟨_, _, e, _⟩ := at_; Heap.lt_size e
  have item : ∀ i v, i < vs.length → (∃ k x, vs[i]? = some (k, x) ∧ (mixKind X.prog X.w).is k v = true) → ∃ t, v = .int (ns.getD i 0) t := fun i v hi h => by
    obtain ⟨k, x, e1, e2⟩ := h
    have e3 : (vs.map (·.1))[i]? = some k := by rw [List.getElem?_map, e1]; rfl
    rw [ek, List.getElem?_map, List.getElem?_eq_getElem (by omega)] at e3
    have e4 : Sum.inl ns[i] = k := Option.some.inj e3
    subst e4
    have e5 : ns.getD i 0 = ns[i] := by rw [List.getD_eq_getElem?_getD, List.getElem?_eq_getElem (by omega)]; rfl
    rcases keyIs_shape (show keyIs (Sum.inl ns[i]) v = true from e2) with ⟨j, t, ej, ev⟩ | ⟨z, t, ez, ev⟩
    · cases ej
      exact ⟨t, by rw [e5]; exact ev⟩
    · cases ez
  refine call_max_walk (wpAny_pyIter_dict lo at_ ?_)
  have wk := (Walks.dictKeys (knd := mixKind X.prog X.w) (show X.A.in1.handled = none from I.ok.hd hc) s.heap.objs.size a (Nat.ne_of_lt less) vs ep).mono_item item
  refine ⟨s.heap.objs.size, _, _, vs.length, fun i v => ∃ t, v = .int (ns.getD i 0) t, _, fun i j => decide (ns.getD i 0 > ns.getD j 0), rfl, wk, ⟨?_, ?_⟩, fun b hb => ?_, by omega, CmpOf.ints_gt (fun i => ns.getD i 0) (fun _ _ z => z), fun v h' tk hv kp => ?_⟩
  · exact ⟨_, Heap.get?_push_size _ rfl, rfl, rfl⟩
  · exact at_.at' fun o e => Heap.get?_push_of_some _ e
  · show b < (s.heap.push _).objs.size
    rw [Heap.size_push]
    have hb : b = s.heap.objs.size ∨ b = a := by simpa using hb
    rcases hb with rfl | rfl
    · exact Nat.lt_succ_self _
    · exact Nat.lt_succ_of_lt less
  · obtain ⟨t, rfl⟩ := hv
    have best := argBest_gt (fun i => ns.getD i 0) (vs.length - 1)
    have keep : ∀ b o, s.heap.get? b = some o → h'.get? b = some o := fun b o e => kp b o (fun z => by
      rw [List.mem_singleton.mp z] at e
      exact Nat.lt_irrefl _ (Heap.lt_size e)) (Heap.get?_push_of_some _ e)
    refine ⟨.int _, H, I.kept (t' := tk) keep, ⟨t, rfl⟩, q _ (PySem.getD_mem ?_) fun y hy => ?_⟩
    · have := best.1
      omega
    · obtain ⟨j, hj, e⟩ := List.mem_iff_getElem.mp hy
      have := best.2 j (by omega)
      have e3 : ns.getD j 0 = y := by rw [List.getD_eq_getElem?_getD, List.getElem?_eq_getElem hj, ← e]; rfl
      rw [e3] at this
      exact this
end Vw
namespace Vw
open PySem PySem.Spec PyProof.Rows L2
def top (i : Nat) : Stmt := PySem.Challenge.pw_votewood_k73_merges_refused.main.body.getD i (.Pass ⟨0, 0, 0, 0⟩)
abbrev s__wall : Stmt := top 0
abbrev s_is_count : Stmt := top 19
abbrev s_need_name : Stmt := top 20
abbrev s_need_text : Stmt := top 21
abbrev s_Saying___init__ : Stmt := inClass (top 22) 0
abbrev s_Saying_ups : Stmt := inClass (top 22) 1
abbrev s_Saying_downs : Stmt := inClass (top 22) 2
abbrev s_Saying_points : Stmt := inClass (top 22) 3
abbrev s_Wood___init__ : Stmt := inClass (top 23) 0
abbrev s_Wood_now : Stmt := inClass (top 23) 1
abbrev s_Wood_tick : Stmt := inClass (top 23) 2
abbrev s_Wood_saying : Stmt := inClass (top 23) 3
abbrev s_Wood_numbers : Stmt := inClass (top 23) 4
abbrev s_Wood_deep : Stmt := inClass (top 23) 5
abbrev s_Wood_say : Stmt := inClass (top 23) 6
abbrev s_Wood_look : Stmt := inClass (top 23) 7
abbrev s_Wood_own : Stmt := inClass (top 23) 8
abbrev s_Wood_change : Stmt := inClass (top 23) 9
abbrev s_Wood_replies : Stmt := inClass (top 23) 10
abbrev s_Wood_strike : Stmt := inClass (top 23) 11
abbrev s_Wood_vote : Stmt := inClass (top 23) 12
abbrev s_Wood_votes_of : Stmt := inClass (top 23) 13
abbrev s_Wood_below : Stmt := inClass (top 23) 14
abbrev s_Wood_many : Stmt := inClass (top 23) 15
abbrev s_Wood_standing : Stmt := inClass (top 23) 16
abbrev s_is_like : Stmt := top 25
abbrev s_comes_of : Stmt := top 26
abbrev s_need_kin : Stmt := top 27
abbrev s_text_of : Stmt := top 28
abbrev s_votes_in_merges : Stmt := top 29
abbrev s_merged_votes : Stmt := top 31
abbrev s_merged_saying : Stmt := top 32
abbrev s_moved : Stmt := top 33
abbrev s_copied : Stmt := top 34
abbrev s_pruned : Stmt := top 35
abbrev s_merged : Stmt := top 36
abbrev s_clashes : Stmt := top 37
abbrev s_need : Stmt := top 41
abbrev s_votes_written : Stmt := top 42
abbrev s_written : Stmt := top 43
abbrev s_number_in : Stmt := top 44
abbrev s_votes_in_texts : Stmt := top 45
abbrev s_put_row : Stmt := top 47
abbrev s_filled : Stmt := top 48
abbrev s_is_right : Stmt := top 49
abbrev s_read : Stmt := top 50
abbrev s__law_cell : Stmt := top 52
abbrev s__law_drawn : Stmt := top 53
abbrev s__law_word : Stmt := top 54
abbrev s__law_told : Stmt := top 55
abbrev s__law_bad_woods : Stmt := top 56
abbrev s_law : Stmt := top 57
structure InsT (K : PySem.W.Frag) (C : Addr) : Prop where
  ha : PySem.W.findIn K (.ref C) "__class__" = some (some (.builtin "object.__class__"))
  hn : PySem.W.specialIn K (.builtin "object.__class__") "__get__" = some (some (.builtin "getset_descriptor.__get__"))
  htk : PySem.W.takesIn K (.builtin "object.__class__") = some true
  hm : PySem.W.mroIn K C (.type "object") = some true
  nt : PySem.W.kitOne K (.ref C) (.type "tuple") = some false
def insTB (K : PySem.W.Frag) (C : Addr) : Bool :=
  He.eqO (PySem.W.findIn K (.ref C) "__class__") (some (some (.builtin "object.__class__"))) && (
  He.eqO (PySem.W.specialIn K (.builtin "object.__class__") "__get__") (some (some (.builtin "getset_descriptor.__get__"))) && (
  oB (PySem.W.takesIn K (.builtin "object.__class__")) (some true) && (oB (PySem.W.mroIn K C (.type "object")) (some true) && oB (PySem.W.kitOne K (.ref C) (.type "tuple")) (some false))))
theorem insTB_ok {K : PySem.W.Frag} {C : Addr} (h : insTB K C = true) : InsT K C := by
  obtain ⟨h1, h⟩ := He.ba h
  obtain ⟨h2, h⟩ := He.ba h
  obtain ⟨h3, h⟩ := He.ba h
  obtain ⟨h4, h5⟩ := He.ba h
  exact ⟨He.eqO_ok h1, He.eqO_ok h2, of_decide_eq_true h3, of_decide_eq_true h4, of_decide_eq_true h5⟩
abbrev errs : List Str := ["BadName", "NoSaying", "BadText", "Full", "NotYours", "BadNumber", "BadDeed", "Nothing", "NotKin"]
abbrev tabs (K : PySem.W.Frag) : List (Addr × Str) := [((He.cT K ("law", none)).2, "law.<locals>.<lambda>")]
structure Txt (K : PySem.W.Frag) (mg : Str → Option Value) (base : Heap) : Prop where
  x_WoodError : Exc K mg "WoodError"
  x_BadName : Exc K mg "BadName"
  x_NoSaying : Exc K mg "NoSaying"
  x_BadText : Exc K mg "BadText"
  x_Full : Exc K mg "Full"
  x_NotYours : Exc K mg "NotYours"
  x_BadNumber : Exc K mg "BadNumber"
  x_BadDeed : Exc K mg "BadDeed"
  x_Nothing : Exc K mg "Nothing"
  x_NotKin : Exc K mg "NotKin"
  c_Saying : Own K mg "Saying"
  n_Saying_by : NoAttr K (He.ga K "Saying") "by"
  n_Saying_under : NoAttr K (He.ga K "Saying") "under"
  n_Saying_text : NoAttr K (He.ga K "Saying") "text"
  n_Saying_time : NoAttr K (He.ga K "Saying") "time"
  n_Saying_votes : NoAttr K (He.ga K "Saying") "votes"
  n_Saying_is_struck : NoAttr K (He.ga K "Saying") "is_struck"
  c_Wood : Own K mg "Wood"
  n_Wood_sayings : NoAttr K (He.ga K "Wood") "sayings"
  n_Wood_came : NoAttr K (He.ga K "Wood") "came"
  n_Wood_clock : NoAttr K (He.ga K "Wood") "clock"
  g_is_count : mg "is_count" = some (.ref (He.ga K "is_count"))
  f_is_count : Is K "is_count" "is_count" s_is_count (He.ga K "is_count")
  g_need_name : mg "need_name" = some (.ref (He.ga K "need_name"))
  f_need_name : Is K "need_name" "need_name" s_need_name (He.ga K "need_name")
  g_need_text : mg "need_text" = some (.ref (He.ga K "need_text"))
  f_need_text : Is K "need_text" "need_text" s_need_text (He.ga K "need_text")
  f_Saying___init__ : Is K "__init__" "Saying.__init__" s_Saying___init__ (He.ma K (He.ga K "Saying") "__init__")
  f_Wood___init__ : Is K "__init__" "Wood.__init__" s_Wood___init__ (He.ma K (He.ga K "Wood") "__init__")
  m_Wood_now : Meth K (He.ga K "Wood") "now" (He.ma K (He.ga K "Wood") "now")
  f_Wood_now : Is K "now" "Wood.now" s_Wood_now (He.ma K (He.ga K "Wood") "now")
  m_Wood_saying : Meth K (He.ga K "Wood") "saying" (He.ma K (He.ga K "Wood") "saying")
  f_Wood_saying : Is K "saying" "Wood.saying" s_Wood_saying (He.ma K (He.ga K "Wood") "saying")
  m_Wood_numbers : Meth K (He.ga K "Wood") "numbers" (He.ma K (He.ga K "Wood") "numbers")
  f_Wood_numbers : Is K "numbers" "Wood.numbers" s_Wood_numbers (He.ma K (He.ga K "Wood") "numbers")
  m_Wood_deep : Meth K (He.ga K "Wood") "deep" (He.ma K (He.ga K "Wood") "deep")
  f_Wood_deep : Is K "deep" "Wood.deep" s_Wood_deep (He.ma K (He.ga K "Wood") "deep")
  m_Wood_own : Meth K (He.ga K "Wood") "own" (He.ma K (He.ga K "Wood") "own")
  f_Wood_own : Is K "own" "Wood.own" s_Wood_own (He.ma K (He.ga K "Wood") "own")
  m_Wood_replies : Meth K (He.ga K "Wood") "replies" (He.ma K (He.ga K "Wood") "replies")
  f_Wood_replies : Is K "replies" "Wood.replies" s_Wood_replies (He.ma K (He.ga K "Wood") "replies")
  m_Wood_below : Meth K (He.ga K "Wood") "below" (He.ma K (He.ga K "Wood") "below")
  f_Wood_below : Is K "below" "Wood.below" s_Wood_below (He.ma K (He.ga K "Wood") "below")
  m_Wood_many : Meth K (He.ga K "Wood") "many" (He.ma K (He.ga K "Wood") "many")
  f_Wood_many : Is K "many" "Wood.many" s_Wood_many (He.ma K (He.ga K "Wood") "many")
  g_is_like : mg "is_like" = some (.ref (He.ga K "is_like"))
  f_is_like : Is K "is_like" "is_like" s_is_like (He.ga K "is_like")
  g_comes_of : mg "comes_of" = some (.ref (He.ga K "comes_of"))
  f_comes_of : Is K "comes_of" "comes_of" s_comes_of (He.ga K "comes_of")
  g_need_kin : mg "need_kin" = some (.ref (He.ga K "need_kin"))
  f_need_kin : Is K "need_kin" "need_kin" s_need_kin (He.ga K "need_kin")
  g_text_of : mg "text_of" = some (.ref (He.ga K "text_of"))
  f_text_of : Is K "text_of" "text_of" s_text_of (He.ga K "text_of")
  g_votes_in_merges : mg "votes_in_merges" = some (.ref (He.ga K "votes_in_merges"))
  f_votes_in_merges : Is K "votes_in" "votes_in" s_votes_in_merges (He.ga K "votes_in_merges")
  g_merged_votes : mg "merged_votes" = some (.ref (He.ga K "merged_votes"))
  f_merged_votes : Is K "merged_votes" "merged_votes" s_merged_votes (He.ga K "merged_votes")
  g_merged_saying : mg "merged_saying" = some (.ref (He.ga K "merged_saying"))
  f_merged_saying : Is K "merged_saying" "merged_saying" s_merged_saying (He.ga K "merged_saying")
  g_moved : mg "moved" = some (.ref (He.ga K "moved"))
  f_moved : Is K "moved" "moved" s_moved (He.ga K "moved")
  g_copied : mg "copied" = some (.ref (He.ga K "copied"))
  f_copied : Is K "copied" "copied" s_copied (He.ga K "copied")
  g_pruned : mg "pruned" = some (.ref (He.ga K "pruned"))
  f_pruned : Is K "pruned" "pruned" s_pruned (He.ga K "pruned")
  g_merged : mg "merged" = some (.ref (He.ga K "merged"))
  f_merged : Is K "merged" "merged" s_merged (He.ga K "merged")
  g_clashes : mg "clashes" = some (.ref (He.ga K "clashes"))
  f_clashes : Is K "clashes" "clashes" s_clashes (He.ga K "clashes")
  g_need : mg "need" = some (.ref (He.ga K "need"))
  f_need : Is K "need" "need" s_need (He.ga K "need")
  g_votes_written : mg "votes_written" = some (.ref (He.ga K "votes_written"))
  f_votes_written : Is K "votes_written" "votes_written" s_votes_written (He.ga K "votes_written")
  g_written : mg "written" = some (.ref (He.ga K "written"))
  f_written : Is K "written" "written" s_written (He.ga K "written")
  g_number_in : mg "number_in" = some (.ref (He.ga K "number_in"))
  f_number_in : Is K "number_in" "number_in" s_number_in (He.ga K "number_in")
  g_votes_in_texts : mg "votes_in_texts" = some (.ref (He.ga K "votes_in_texts"))
  f_votes_in_texts : Is K "votes_in" "votes_in" s_votes_in_texts (He.ga K "votes_in_texts")
  g_put_row : mg "put_row" = some (.ref (He.ga K "put_row"))
  f_put_row : Is K "put_row" "put_row" s_put_row (He.ga K "put_row")
  g_filled : mg "filled" = some (.ref (He.ga K "filled"))
  f_filled : Is K "filled" "filled" s_filled (He.ga K "filled")
  g_is_right : mg "is_right" = some (.ref (He.ga K "is_right"))
  f_is_right : Is K "is_right" "is_right" s_is_right (He.ga K "is_right")
  g_read : mg "read" = some (.ref (He.ga K "read"))
  f_read : Is K "read" "read" s_read (He.ga K "read")
  g__law_cell : mg "_law_cell" = some (.ref (He.ga K "_law_cell"))
  f__law_cell : Is K "_law_cell" "_law_cell" s__law_cell (He.ga K "_law_cell")
  g__law_drawn : mg "_law_drawn" = some (.ref (He.ga K "_law_drawn"))
  f__law_drawn : Is K "_law_drawn" "_law_drawn" s__law_drawn (He.ga K "_law_drawn")
  g__law_word : mg "_law_word" = some (.ref (He.ga K "_law_word"))
  f__law_word : Is K "_law_word" "_law_word" s__law_word (He.ga K "_law_word")
  g__law_told : mg "_law_told" = some (.ref (He.ga K "_law_told"))
  f__law_told : Is K "_law_told" "_law_told" s__law_told (He.ga K "_law_told")
  g__law_bad_woods : mg "_law_bad_woods" = some (.ref (He.ga K "_law_bad_woods"))
  f__law_bad_woods : Is K "_law_bad_woods" "_law_bad_woods" s__law_bad_woods (He.ga K "_law_bad_woods")
  g_law : mg "law" = some (.ref (He.ga K "law"))
  f_law : Is K "law" "law" s_law (He.ga K "law")
  b_ValueError : mg "ValueError" = none
  b_all : mg "all" = none
  b_any : mg "any" = none
  b_bool : mg "bool" = none
  b_dict : mg "dict" = none
  b_int : mg "int" = none
  b_isinstance : mg "isinstance" = none
  b_len : mg "len" = none
  b_list : mg "list" = none
  b_max : mg "max" = none
  b_min : mg "min" = none
  b_ord : mg "ord" = none
  b_range : mg "range" = none
  b_set : mg "set" = none
  b_sorted : mg "sorted" = none
  b_str : mg "str" = none
  b_sum : mg "sum" = none
  b_tuple : mg "tuple" = none
  k_SMALL : GK mg "SMALL" (.str "abcdefghijklmnopqrstuvwxyz")
  k_MOST_WORD : GK mg "MOST_WORD" (.int 6)
  k_MOST_TEXT : GK mg "MOST_TEXT" (.int 30)
  k_MOST_SAYINGS : GK mg "MOST_SAYINGS" (.int 60)
  k_MOST_DEEP : GK mg "MOST_DEEP" (.int 8)
  k_BARRED : GK mg "BARRED" (.int 37)
  k_FIGURES : GK mg "FIGURES" (.str "0123456789")
  k_MOST_FIGURES : GK mg "MOST_FIGURES" (.int 9)
  it_Wood : InsT K (He.ga K "Wood")
  wd : Word K errs
  tb_law : LamX.TabB base mg (He.cT K ("law", none)).1 (He.cT K ("law", none)).2
  tn : ((tabs K).map (·.1)).Nodup
end Vw
namespace Vw
open PySem PySem.Spec PyProof.Rows L2
local macro_rules | `(tactic| walk_at "rd") => `(tactic| simp only [tSeq, tNext, tIfS, tAsg, tRet, tRetN, tDrop, tVar, tC, tOp, tUn, tTest, tB, tAnd, tOr, tNot, tAndV, tOrV, tNotV, tIf, tChain, tCB, tCons, tNil, tCall, tMeth, tMake, tFld, sFld, tTup, tLst, tTupS, tLstS, tDNewKS, tDNewTS, tTold, tCmp, t2I, tIsN, tNotN, tPar, gName, gNil, gCons, gTup, gSub, rI0, rU, rEq, rNe, tDGet, tDIn, tDNotIn, sDPut, tDNewK, tDGet1, tDGet2, tDPop1, tDPop2, tBM, tBM0, tM0, tM1, tSl, tPart, tNoPart, tBreak, tCont, tThru, L2.start, List.map_cons, List.map_nil, List.length_cons, List.length_nil, List.cons_append, List.nil_append, List.append_nil, List.replicate_succ, List.replicate_zero, Nat.reduceAdd, Nat.reduceSub, Nat.zero_add, List.getElem?_cons_zero, List.getElem?_cons_succ, List.set_cons_zero, List.set_cons_succ, wipe, cxOf_K, tYes, List.cons.injEq, and_self, Option.some.injEq, V.int.injEq, V.bl.injEq, V.ref.injEq, V.str.injEq, exists_eq_left', exists_eq_left, exists_and_left, and_assoc, true_and, and_true, if_true, if_false, ite_true, ite_false, Bool.not_true, Bool.not_false, Bool.false_eq_true, reduceIte])
/-! ### any data by its kind -/
def tyName : PyData → String
  | .none => "NoneType" | .bool _ => "bool" | .int _ => "int" | .str _ => "str" | .list _ => "list" | .tuple _ => "tuple" | .dict _ => "dict"
theorem dp_ty {K : PySem.W.Frag} {H : Hp} {x : V} {d : PyData} (h : Dp K H x d) : TyX K H x (.type (tyName d)) := by
  cases h with
  | non => exact .base .non
  | bl b => exact .base (.bl b)
  | int i => exact .base (.int i)
  | str z => exact .base (.str z)
  | lst hs _ =>
    rcases hs with (e | ⟨o, e⟩) | ⟨_, _, _, e, c, _⟩
    · exact .base (.lst e)
    · exact .base (.frz e)
    · exact .kList e c
  | tup hs _ =>
    rcases hs with (e | ⟨o, e⟩) | ⟨_, _, _, e, c, _⟩
    · exact .base (.tup e)
    · exact .fTuple e
    · exact .kTuple e c
def isIntD : PyData → Bool
  | .int _ => true | .bool _ => true | _ => false
def isBoolD : PyData → Bool
  | .bool _ => true | _ => false
def isStrD : PyData → Bool
  | .str _ => true | _ => false
theorem kit_int (d : PyData) : kitB (tyName d) "int" = some (isIntD d) := by
  cases d with
  | none => exact (show kitB "NoneType" "int" = some false by decide +kernel)
  | bool b => exact (show kitB "bool" "int" = some true by decide +kernel)
  | int i => exact (show kitB "int" "int" = some true by decide +kernel)
  | str z => exact (show kitB "str" "int" = some false by decide +kernel)
  | list z => exact (show kitB "list" "int" = some false by decide +kernel)
  | tuple z => exact (show kitB "tuple" "int" = some false by decide +kernel)
  | dict z => exact (show kitB "dict" "int" = some false by decide +kernel)
theorem kit_bool (d : PyData) : kitB (tyName d) "bool" = some (isBoolD d) := by
  cases d with
  | none => exact (show kitB "NoneType" "bool" = some false by decide +kernel)
  | bool b => exact (show kitB "bool" "bool" = some true by decide +kernel)
  | int i => exact (show kitB "int" "bool" = some false by decide +kernel)
  | str z => exact (show kitB "str" "bool" = some false by decide +kernel)
  | list z => exact (show kitB "list" "bool" = some false by decide +kernel)
  | tuple z => exact (show kitB "tuple" "bool" = some false by decide +kernel)
  | dict z => exact (show kitB "dict" "bool" = some false by decide +kernel)
theorem kit_str (d : PyData) : kitB (tyName d) "str" = some (isStrD d) := by
  cases d with
  | none => exact (show kitB "NoneType" "str" = some false by decide +kernel)
  | bool b => exact (show kitB "bool" "str" = some false by decide +kernel)
  | int i => exact (show kitB "int" "str" = some false by decide +kernel)
  | str z => exact (show kitB "str" "str" = some true by decide +kernel)
  | list z => exact (show kitB "list" "str" = some false by decide +kernel)
  | tuple z => exact (show kitB "tuple" "str" = some false by decide +kernel)
  | dict z => exact (show kitB "dict" "str" = some false by decide +kernel)
theorem use_isi {K : PySem.W.Frag} {H : Hp} {x : V} {d : PyData} {t : String} {b : Bool} {Q : VK} (hx : Dp K H x d) (hb : kitB (tyName d) t = some b) (q : Q (.bl b) H) : rIsi K [x, .ty t] H Q :=
  ⟨x, .ty t, _, _, b, rfl, .ty t, dp_ty hx, kit_ty hb, q⟩
/-! ### is_count -/
def spIsCount (K : PySem.W.Frag) : Sp := fun vs H Q _ => ∃ (x : V) (d : PyData) (lo hi : Int), vs = [x, .int lo, .int hi] ∧ Dp K H x d ∧ Q (.bl (isCount d lo hi)) H
section
variable {P : Program} {w : World} {K : PySem.W.Frag} {mg : Str → Option Value} {base : Heap}
abbrev N_is_count : List Str := ["thing", "low", "high"]
theorem sc_is_count : FnScope N_is_count ["thing", "low", "high"] (defScope s_is_count) := ⟨rfl, rfl, rfl, by decide +kernel, rfl, by decide +kernel, by decide +kernel⟩
theorem be_is_count : BindEq "is_count" "is_count" s_is_count ["thing", "low", "high"] := fun _ _ _ _ _ _ us hl => match us, hl with | [_, _, _], _ => rfl
theorem D_is_count (T : Txt K mg base) : Def P w K mg base 1 (He.ga K "is_count") ["thing", "low", "high"] (spIsCount K) := by
  refine mk_def T.f_is_count sc_is_count be_is_count (fun vs H Q E h => ?_) (fun cdv A outer s H vs Q E hr h => ?_)
  · obtain ⟨x, d, lo, hi, rfl, _⟩ := h
    rfl
  · obtain ⟨x, d, lo, hi, rfl, hx, q⟩ := h
    refine ⟨_, (pss_one (ps_ret (pe_and (pe_callB call_isi (by rfl) T.b_isinstance (by decide +kernel) (pa_cons (pv 0) (pa_cons (pe_bltn (v := .ty "int") (by rfl) T.b_int (by decide +kernel) rfl) pa_nil))) (pe_and (pe_not (pe_callB call_isi (by rfl) T.b_isinstance (by decide +kernel) (pa_cons (pv 0) (pa_cons (pe_bltn (v := .ty "bool") (by rfl) T.b_bool (by decide +kernel) rfl) pa_nil)))) (pe_one (pe_chain op_le op_le (pv 1) (pv 0) (pv 2))))))), ?_⟩
    walk_at "rd"
    refine use_isi hx (kit_int d) ⟨_, rfl, ?_⟩
    cases hx with
    | int i =>
      refine iteT (use_isi (.int i) (kit_bool _) ⟨_, rfl, iteT ⟨_, rfl, ?_⟩⟩)
      by_cases h1 : lo ≤ i
      · rw [decide_eq_true h1]
        refine iteT ⟨_, rfl, ?_⟩
        simpa [isCount, h1] using q
      · rw [decide_eq_false h1]
        refine iteF ?_
        simpa [isCount, h1] using q
    | bl b => exact iteT (use_isi (.bl b) (kit_bool _) ⟨_, rfl, iteF q⟩)
    | non => exact iteF q
    | str z => exact iteF q
    | lst _ _ => exact iteF q
    | tup _ _ => exact iteF q
/-! ### need_name, need_text -/
def spNeedName (K : PySem.W.Frag) : Sp := fun vs H Q E => ∃ (x : V) (d : PyData), vs = [x] ∧ Dp K H x d ∧ Short d ∧
  (nameOk d = true → ∀ H', Same H H' → Q .non H') ∧ (nameOk d = false → ∀ H', Same H H' → Bad K E .name H')
abbrev N_need_name : List Str := ["thing", "good", "sign"]
theorem sc_need_name : FnScope N_need_name ["thing"] (defScope s_need_name) := ⟨rfl, rfl, rfl, by decide +kernel, rfl, by decide +kernel, by decide +kernel⟩
theorem be_need_name : BindEq "need_name" "need_name" s_need_name ["thing"] := fun _ _ _ _ _ _ us hl => match us, hl with | [_], _ => rfl
theorem D_need_name (T : Txt K mg base) : Def P w K mg base 1 (He.ga K "need_name") ["thing"] (spNeedName K) := by
  refine mk_def T.f_need_name sc_need_name be_need_name (fun vs H Q E h => ?_) (fun cdv A outer s H vs Q E hr h => ?_)
  · obtain ⟨x, d, rfl, _⟩ := h
    rfl
  · obtain ⟨x, d, rfl, hx, hz, k1, k0⟩ := h
    refine ⟨_, (pss_cons (ps_set (i := 1) sc_need_name.nd rfl (Or.inl rfl) (pe_and (pe_callB call_isi (by rfl) T.b_isinstance (by decide +kernel) (pa_cons (pv 0) (pa_cons (pe_bltn (v := .ty "str") (by rfl) T.b_str (by decide +kernel) rfl) pa_nil))) (pe_one (pe_chain op_le op_le pe_int (pe_callB call_len_str (by rfl) T.b_len (by decide +kernel) (pa_cons (pv 0) pa_nil)) (pe_gk T.k_MOST_WORD)))))
      (pss_one (ps_if (PW.pt (pw_or (pt_not (pt_val (pv 1))) (pw_or1 (pt_not (pt_val (pe_callB (cr_all rfl) (by rfl) T.b_all (by decide +kernel) (pa_cons (pe_lc (own := [("sign", 2)]) (g := gName 2) rfl sc_need_name.nd (pi_str (pv 0)) (blkOk_by (N := N_need_name) (sc := defScope s_need_name) (by decide +kernel)) (fun _ _ _ _ _ => by exact (pg_name (i := 2) sc_need_name.nd rfl (Or.inl rfl))) (fun _ _ _ _ _ => pts_nil) (fun _ _ _ _ _ => by exact (pe_cmpR op_in_sign (pv 2) (pe_gk T.k_SMALL) rfl))) pa_nil))))))) (pss_one (ps_rs T.x_BadName)) pss_nil))), ?_⟩
    walk_at "rd"
    refine use_isi hx (kit_str d) ⟨_, rfl, ?_⟩
    have k0' : nameOk d = false → Bad K E .name H := fun h => k0 h H (Same.refl H)
    cases hx with
    | str z =>
      have hz : z.length < sizeLine := hz
      refine iteT ⟨_, rfl, Nat.le_of_lt hz, ?_⟩
      by_cases h1 : 1 ≤ (z.length : Int)
      · rw [decide_eq_true h1]
        refine iteT ?_
        by_cases h6 : (z.length : Int) ≤ 6
        · rw [decide_eq_true h6]
          refine iteF ?_
          refine lcS (z := z) (fun c => some (.bl (decide (c ∈ small)))) (fun R r => ⟨_, rfl, r⟩) hz (fun c H' _ s1 N1 N0 k1 k0 => ?_) (fun D H' hD s1 e => ?_)
          · walk_at "rd"
            exact ⟨_, rfl, k1 _ _ (Same.refl _) rfl⟩
          · refine ⟨D, z.cps.toList.map fun c => decide (c ∈ small), rfl, SqL.of ?_, ?_⟩
            · rw [e, List.filterMap_eq_map', List.map_map]
              rfl
            · refine ⟨_, rfl, ?_⟩
              have ea : nameOk (.str z) = (z.cps.toList.map fun c => decide (c ∈ small)).all id := by
                have h1' : 1 ≤ z.length := by omega
                have h6' : z.length ≤ 6 := by omega
                simp [nameOk, nameZ, h1', h6', List.all_map, Function.comp_def]
              rw [← ea]
              cases en : nameOk (.str z) with
              | true => exact iteF (k1 en H' s1)
              | false => exact iteT (k0 en H' s1)
        · rw [decide_eq_false h6]
          refine iteT (k0' ?_)
          have h6' : ¬ z.length ≤ 6 := by omega
          simp [nameOk, nameZ, h6']
      · rw [decide_eq_false h1]
        refine iteF (k0' ?_)
        have h1' : ¬ 1 ≤ z.length := by omega
        simp [nameOk, nameZ, h1']
    | int i => exact iteF (k0' rfl)
    | bl b => exact iteF (k0' rfl)
    | non => exact iteF (k0' rfl)
    | lst _ _ => exact iteF (k0' rfl)
    | tup _ _ => exact iteF (k0' rfl)
def spNeedText (K : PySem.W.Frag) : Sp := fun vs H Q E => ∃ (x : V) (d : PyData), vs = [x] ∧ Dp K H x d ∧ Short d ∧
  (textOk d = true → ∀ H', Same H H' → Q .non H') ∧ (textOk d = false → ∀ H', Same H H' → Bad K E .text H')
theorem lt1 (a b : Nat) : decide (([a] : List Nat) < [b]) = decide (a < b) := by
  have : (([a] : List Nat) < [b]) ↔ a < b := by
    rw [List.cons_lt_cons_iff]
    simp
  simp [this]
theorem sp32 : (Str.ofString " ").cps.toList = [32] := by decide +kernel
theorem ti126 : (Str.ofString "~").cps.toList = [126] := by decide +kernel
abbrev N_need_text : List Str := ["thing", "good", "sign"]
theorem sc_need_text : FnScope N_need_text ["thing"] (defScope s_need_text) := ⟨rfl, rfl, rfl, by decide +kernel, rfl, by decide +kernel, by decide +kernel⟩
theorem be_need_text : BindEq "need_text" "need_text" s_need_text ["thing"] := fun _ _ _ _ _ _ us hl => match us, hl with | [_], _ => rfl
theorem D_need_text (T : Txt K mg base) : Def P w K mg base 1 (He.ga K "need_text") ["thing"] (spNeedText K) := by
  refine mk_def T.f_need_text sc_need_text be_need_text (fun vs H Q E h => ?_) (fun cdv A outer s H vs Q E hr h => ?_)
  · obtain ⟨x, d, rfl, _⟩ := h
    rfl
  · obtain ⟨x, d, rfl, hx, hz, k1, k0⟩ := h
    refine ⟨_, (pss_cons (ps_set (i := 1) sc_need_text.nd rfl (Or.inl rfl) (pe_and (pe_callB call_isi (by rfl) T.b_isinstance (by decide +kernel) (pa_cons (pv 0) (pa_cons (pe_bltn (v := .ty "str") (by rfl) T.b_str (by decide +kernel) rfl) pa_nil))) (pe_one (pe_chain op_le op_le pe_int (pe_callB call_len_str (by rfl) T.b_len (by decide +kernel) (pa_cons (pv 0) pa_nil)) (pe_gk T.k_MOST_TEXT)))))
      (pss_one (ps_if (PW.pt (pw_or (pt_not (pt_val (pv 1))) (pw_or1 (pt_not (pt_val (pe_callB (cr_all rfl) (by rfl) T.b_all (by decide +kernel) (pa_cons (pe_lc (own := [("sign", 2)]) (g := gName 2) rfl sc_need_text.nd (pi_str (pv 0)) (blkOk_by (N := N_need_text) (sc := defScope s_need_text) (by decide +kernel)) (fun _ _ _ _ _ => by exact (pg_name (i := 2) sc_need_text.nd rfl (Or.inl rfl))) (fun _ _ _ _ _ => pts_nil) (fun _ _ _ _ _ => by exact (pe_and (pe_chain op_le_str op_le_str pe_str (pv 2) pe_str) (pe_one (pe_cmpR op_ne (pe_callB call_ord (by rfl) T.b_ord (by decide +kernel) (pa_cons (pv 2) pa_nil)) (pe_gk T.k_BARRED) (nomark _)))))) pa_nil))))))) (pss_one (ps_rs T.x_BadText)) pss_nil))), ?_⟩
    walk_at "rd"
    refine use_isi hx (kit_str d) ⟨_, rfl, ?_⟩
    have k0' : textOk d = false → Bad K E .text H := fun h => k0 h H (Same.refl H)
    cases hx with
    | str z =>
      have hz : z.length < sizeLine := hz
      refine iteT ⟨_, rfl, Nat.le_of_lt hz, ?_⟩
      by_cases h1 : 1 ≤ (z.length : Int)
      · rw [decide_eq_true h1]
        refine iteT ?_
        by_cases h6 : (z.length : Int) ≤ 30
        · rw [decide_eq_true h6]
          refine iteF ?_
          refine lcS (z := z) (fun c => some (.bl (signOk c))) (fun R r => ⟨_, rfl, r⟩) hz (fun c H' _ s1 N1 N0 k1 k0 => ?_) (fun D H' hD s1 e => ?_)
          · walk_at "rd"
            rw [sp32, ti126, lt1, lt1]
            by_cases a1 : c < 32
            · rw [decide_eq_true a1]
              refine iteF (k1 _ _ (Same.refl _) ?_)
              have : ¬ 32 ≤ c := by omega
              simp [signOk, this]
            · rw [decide_eq_false a1]
              refine iteT ?_
              by_cases a2 : 126 < c
              · rw [decide_eq_true a2]
                refine iteF (k1 _ _ (Same.refl _) ?_)
                have : ¬ c ≤ 126 := by omega
                simp [signOk, this]
              · rw [decide_eq_false a2]
                refine iteT ⟨rfl, rfl, k1 _ _ (Same.refl _) ?_⟩
                have h32 : 32 ≤ c := by omega
                have h126 : c ≤ 126 := by omega
                have e37 : decide (((#[c].getD 0 0 : Nat) : Int) = 37) = decide (c = 37) := by
                  have : (#[c].getD 0 0 : Nat) = c := rfl
                  rw [this]
                  by_cases hc : c = 37
                  · simp [hc]
                  · have : ¬ ((c : Int) = 37) := by omega
                    simp [hc, this]
                rw [e37]
                simp [signOk, h32, h126]
          · refine ⟨D, z.cps.toList.map signOk, rfl, SqL.of ?_, ?_⟩
            · rw [e, List.filterMap_eq_map', List.map_map]
              rfl
            · refine ⟨_, rfl, ?_⟩
              have ea : textOk (.str z) = (z.cps.toList.map signOk).all id := by
                have h1' : 1 ≤ z.length := by omega
                have h6' : z.length ≤ 30 := by omega
                simp [textOk, textZ, h1', h6', List.all_map, Function.comp_def]
              rw [← ea]
              cases en : textOk (.str z) with
              | true => exact iteF (k1 en H' s1)
              | false => exact iteT (k0 en H' s1)
        · rw [decide_eq_false h6]
          refine iteT (k0' ?_)
          have h6' : ¬ z.length ≤ 30 := by omega
          simp [textOk, textZ, h6']
      · rw [decide_eq_false h1]
        refine iteF (k0' ?_)
        have h1' : ¬ 1 ≤ z.length := by omega
        simp [textOk, textZ, h1']
    | int i => exact iteF (k0' rfl)
    | bl b => exact iteF (k0' rfl)
    | non => exact iteF (k0' rfl)
    | lst _ _ => exact iteF (k0' rfl)
    | tup _ _ => exact iteF (k0' rfl)
end
end Vw
namespace Vw
open PySem PySem.Spec PyProof.Rows L2
local macro_rules | `(tactic| walk_at "rd") => `(tactic| simp only [tSeq, tNext, tIfS, tAsg, tRet, tRetN, tDrop, tVar, tC, tOp, tUn, tTest, tB, tAnd, tOr, tNot, tAndV, tOrV, tNotV, tIf, tChain, tCB, tCons, tNil, tCall, tMeth, tMake, tFld, sFld, tTup, tLst, tTupS, tLstS, tDNewKS, tDNewTS, tTold, tCmp, t2I, tIsN, tNotN, tPar, gName, gNil, gCons, gTup, gSub, rI0, rU, rEq, rNe, tDGet, tDIn, tDNotIn, sDPut, tDNewK, tDGet1, tDGet2, tDPop1, tDPop2, tBM, tBM0, tM0, tM1, tSl, tPart, tNoPart, tBreak, tCont, tThru, L2.start, List.map_cons, List.map_nil, List.length_cons, List.length_nil, List.cons_append, List.nil_append, List.append_nil, List.replicate_succ, List.replicate_zero, Nat.reduceAdd, Nat.reduceSub, Nat.zero_add, List.getElem?_cons_zero, List.getElem?_cons_succ, List.set_cons_zero, List.set_cons_succ, wipe, cxOf_K, tYes, List.cons.injEq, and_self, Option.some.injEq, V.int.injEq, V.bl.injEq, V.ref.injEq, V.str.injEq, exists_eq_left', exists_eq_left, exists_and_left, and_assoc, true_and, and_true, if_true, if_false, ite_true, ite_false, Bool.not_true, Bool.not_false, Bool.false_eq_true, reduceIte])
/-! ### a saying in the heap -/
abbrev cS (K : PySem.W.Frag) : Addr := He.ga K "Saying"
abbrev cW (K : PySem.W.Frag) : Addr := He.ga K "Wood"
def voteK (p : Str × Int) : Key × V := (Sum.inr p.1, .int p.2)
def votesK (vs : List (Str × Int)) : List (Key × V) := vs.map voteK
structure SayAt (K : PySem.W.Frag) (H : Hp) (a x v : Addr) (r : Row) : Prop where
  o : H a = some (.ins (cS K) x (sayFs r v))
  d : H v = some (.dK (votesK r.votes))
  nd : (r.votes.map (·.1)).Nodup
  sz : r.votes.length < 100000
theorem SayAt.same {K : PySem.W.Frag} {H H' : Hp} {a x v : Addr} {r : Row} (S : SayAt K H a x v r) (s : Same H H') : SayAt K H' a x v r := ⟨s _ _ S.o, s _ _ S.d, S.nd, S.sz⟩
theorem fld {K : PySem.W.Frag} {H : Hp} {a C dx : Addr} {fs : List (Str × V)} {f : Str} {v : V} {R : V → Prop} (h : H a = some (.ins C dx fs)) (hc : Cls K C) (hn : NoAttr K C f) (hl : fs.lookup f = some v) (q : R v) :
    ∃ C dx fs, H a = some (.ins C dx fs) ∧ Cls K C ∧ NoAttr K C f ∧ ∃ v, fs.lookup f = some v ∧ R v := ⟨_, _, _, h, hc, hn, _, hl, q⟩
section
variable {K : PySem.W.Frag} {mg : Str → Option Value} {base : Heap} {H : Hp} {a x v : Addr} {r : Row} {R : V → Prop}
theorem SayAt.fby (S : SayAt K H a x v r) (T : Txt K mg base) (q : R (.str r.who)) : ∃ C dx fs, H a = some (.ins C dx fs) ∧ Cls K C ∧ NoAttr K C "by" ∧ ∃ v, fs.lookup (Str.ofString "by") = some v ∧ R v := fld S.o T.c_Saying.c T.n_Saying_by (fs_by _ _) q
theorem SayAt.funder (S : SayAt K H a x v r) (T : Txt K mg base) (q : R (.int r.under)) : ∃ C dx fs, H a = some (.ins C dx fs) ∧ Cls K C ∧ NoAttr K C "under" ∧ ∃ v, fs.lookup (Str.ofString "under") = some v ∧ R v := fld S.o T.c_Saying.c T.n_Saying_under (fs_under _ _) q
theorem SayAt.ftext (S : SayAt K H a x v r) (T : Txt K mg base) (q : R (.str r.text)) : ∃ C dx fs, H a = some (.ins C dx fs) ∧ Cls K C ∧ NoAttr K C "text" ∧ ∃ v, fs.lookup (Str.ofString "text") = some v ∧ R v := fld S.o T.c_Saying.c T.n_Saying_text (fs_text _ _) q
theorem SayAt.ftime (S : SayAt K H a x v r) (T : Txt K mg base) (q : R (.int r.time)) : ∃ C dx fs, H a = some (.ins C dx fs) ∧ Cls K C ∧ NoAttr K C "time" ∧ ∃ v, fs.lookup (Str.ofString "time") = some v ∧ R v := fld S.o T.c_Saying.c T.n_Saying_time (fs_time _ _) q
theorem SayAt.fvotes (S : SayAt K H a x v r) (T : Txt K mg base) (q : R (.ref v)) : ∃ C dx fs, H a = some (.ins C dx fs) ∧ Cls K C ∧ NoAttr K C "votes" ∧ ∃ v, fs.lookup (Str.ofString "votes") = some v ∧ R v := fld S.o T.c_Saying.c T.n_Saying_votes (fs_votes _ _) q
theorem SayAt.fstruck (S : SayAt K H a x v r) (T : Txt K mg base) (q : R (.bl r.struck)) : ∃ C dx fs, H a = some (.ins C dx fs) ∧ Cls K C ∧ NoAttr K C "is_struck" ∧ ∃ v, fs.lookup (Str.ofString "is_struck") = some v ∧ R v := fld S.o T.c_Saying.c T.n_Saying_is_struck (fs_struck _ _) q
end
theorem votes_at {vs : List (Str × Int)} (nd : (vs.map (·.1)).Nodup) {p : Str × Int} (hp : p ∈ vs) : valV (votesK vs) (Sum.inr p.1) = some (.int p.2) := by
  induction vs with
  | nil => cases hp
  | cons q r ih =>
    simp only [List.map_cons, List.nodup_cons] at nd
    rcases List.mem_cons.mp hp with rfl | hp
    · exact valV_pos rfl
    · have h : ¬ (Sum.inr q.1 : Key) = Sum.inr p.1 := fun e => nd.1 (List.mem_map.mpr ⟨p, hp, (Sum.inr.inj e).symm⟩)
      show valV (voteK q :: votesK r) _ = _
      rw [valV_neg h]
      exact ih nd.2 hp
theorem len_if {l : List (Str × Int)} {c : Str × Int → Prop} [DecidablePred c] {f : Str × Int → V} : (l.filterMap fun p => if c p then some (f p) else none).length = (l.filter fun p => decide (c p)).length := by
  induction l with
  | nil => rfl
  | cons a r ih =>
    by_cases h : c a
    · simp [List.filterMap_cons, List.filter_cons, h, ih]
    · simp [List.filterMap_cons, List.filter_cons, h, ih]
section
variable {P : Program} {w : World} {K : PySem.W.Frag} {mg : Str → Option Value} {base : Heap}
/-! ### Saying.__init__ -/
def spSayInit (K : PySem.W.Frag) : Sp := fun vs H Q _ => ∃ (a x : Addr) (who text : Str) (under time : Int), vs = [.ref a, .str who, .int under, .str text, .int time] ∧ H a = some (.ins (cS K) x []) ∧
  ∀ v H', H v = none → SayAt K H' a x v ⟨who, under, text, time, [], false⟩ → (∀ b o, b ≠ a → H b = some o → H' b = some o) → Q .non H'
abbrev N_Saying___init__ : List Str := ["self", "by", "under", "text", "time"]
theorem sc_Saying___init__ : FnScope N_Saying___init__ ["self", "by", "under", "text", "time"] (defScope s_Saying___init__) := ⟨rfl, rfl, rfl, by decide +kernel, rfl, by decide +kernel, by decide +kernel⟩
theorem be_Saying___init__ : BindEq "__init__" "Saying.__init__" s_Saying___init__ ["self", "by", "under", "text", "time"] := fun _ _ _ _ _ _ us hl => match us, hl with | [_, _, _, _, _], _ => rfl
theorem D_Saying___init__ (T : Txt K mg base) : Def P w K mg base 1 (He.ma K (He.ga K "Saying") "__init__") ["self", "by", "under", "text", "time"] (spSayInit K) := by
  refine mk_def T.f_Saying___init__ sc_Saying___init__ be_Saying___init__ (fun vs H Q E h => ?_) (fun cdv A outer s H vs Q E hr h => ?_)
  · obtain ⟨a, x, who, text, under, time, rfl, _⟩ := h
    rfl
  · obtain ⟨a, x, who, text, under, time, rfl, ha, k⟩ := h
    refine ⟨_, (pss_cons (ps_fld (pv 0) (pv 1) (by rfl))
      (pss_cons (ps_fld (pv 0) (pv 2) (by rfl))
      (pss_cons (ps_fld (pv 0) (pv 3) (by rfl))
      (pss_cons (ps_fld (pv 0) (pv 4) (by rfl))
      (pss_cons (ps_fld (pv 0) pe_dnewK (by rfl))
      (pss_one (ps_fld (pv 0) pe_bl (by rfl)))))))), ?_⟩
    walk_at "rd"
    refine ⟨_, _, _, ha, T.c_Saying.c, T.n_Saying_by, by decide, _, _, _, upd_same, T.c_Saying.c, T.n_Saying_under, by simp [putF], _, _, _, upd_same, T.c_Saying.c, T.n_Saying_text, by simp [putF, ofString_inj], _, _, _, upd_same, T.c_Saying.c, T.n_Saying_time, by simp [putF, ofString_inj], fun v hv => ?_⟩
    simp only [upd_upd] at hv ⊢
    have nva : v ≠ a := fun z => by
      rw [z, upd_same] at hv
      cases hv
    refine ⟨_, _, _, by rw [upd_ne nva.symm, upd_same], T.c_Saying.c, T.n_Saying_votes, by simp [putF, ofString_inj], _, _, _, upd_same, T.c_Saying.c, T.n_Saying_is_struck, by simp [putF, ofString_inj], ?_⟩
    refine k v _ (by rw [upd_ne nva] at hv; exact hv) ⟨?_, ?_, List.nodup_nil, by show 0 < 100000; decide⟩ (fun b o hb e => ?_)
    · rw [upd_same]
      simp [putF, ofString_inj, sayFs]
    · rw [upd_ne nva, upd_same]
      rfl
    · have nbv : b ≠ v := fun z => by
        rw [z] at e
        rw [upd_ne nva, e] at hv
        cases hv
      rw [upd_ne hb, upd_ne nbv, upd_ne hb]
      exact e
/-! ### Saying.ups, downs, points -/
def spUps (K : PySem.W.Frag) (f : Row → Int) : Sp := fun vs H Q _ => ∃ (a x v : Addr) (r : Row), vs = [.ref a] ∧ SayAt K H a x v r ∧ ∀ H', Same H H' → Q (.int (f r)) H'
end
end Vw
namespace Vw
open PySem PySem.Spec PyProof.Rows L2
local macro_rules | `(tactic| walk_at "rd") => `(tactic| simp only [tSeq, tNext, tIfS, tAsg, tRet, tRetN, tDrop, tVar, tC, tOp, tUn, tTest, tB, tAnd, tOr, tNot, tAndV, tOrV, tNotV, tIf, tChain, tCB, tCons, tNil, tCall, tMeth, tMake, tFld, sFld, tTup, tLst, tTupS, tLstS, tDNewKS, tDNewTS, tTold, tCmp, t2I, tIsN, tNotN, tPar, gName, gNil, gCons, gTup, gSub, rI0, rU, rEq, rNe, tDGet, tDIn, tDNotIn, sDPut, tDNewK, tDGet1, tDGet2, tDPop1, tDPop2, tBM, tBM0, tM0, tM1, tSl, tPart, tNoPart, tBreak, tCont, tThru, L2.start, List.map_cons, List.map_nil, List.length_cons, List.length_nil, List.cons_append, List.nil_append, List.append_nil, List.replicate_succ, List.replicate_zero, Nat.reduceAdd, Nat.reduceSub, Nat.zero_add, List.getElem?_cons_zero, List.getElem?_cons_succ, List.set_cons_zero, List.set_cons_succ, wipe, cxOf_K, tYes, List.cons.injEq, and_self, Option.some.injEq, V.int.injEq, V.bl.injEq, V.ref.injEq, V.str.injEq, exists_eq_left', exists_eq_left, exists_and_left, and_assoc, true_and, and_true, if_true, if_false, ite_true, ite_false, Bool.not_true, Bool.not_false, Bool.false_eq_true, reduceIte])
/-! ### a wood in the heap -/
structure Ent where
  n : Int
  row : Row
  a : Addr
  x : Addr
  v : Addr
structure Lay where
  p : Addr
  dx : Addr
  d : Addr
  ents : List Ent
  came : Int
  clock : Int
def entK (e : Ent) : Key × V := (Sum.inl e.n, .ref e.a)
structure WoodAt (K : PySem.W.Frag) (H : Hp) (L : Lay) : Prop where
  top : H L.p = some (.ins (cW K) L.dx (woodFs L.d L.came L.clock))
  dic : H L.d = some (.dK (L.ents.map entK))
  say : ∀ e ∈ L.ents, SayAt K H e.a e.x e.v e.row
  nk : (L.ents.map (·.n)).Nodup
  nda : (L.ents.map (·.a)).Nodup
  ndv : (L.ents.map (·.v)).Nodup
  dv : ∀ e ∈ L.ents, e.v ≠ L.d
  pa : ∀ e ∈ L.ents, e.a ≠ L.p
  sz : L.ents.length < 100000
theorem WoodAt.same {K : PySem.W.Frag} {H H' : Hp} {L : Lay} (W : WoodAt K H L) (s : Same H H') : WoodAt K H' L :=
  ⟨s _ _ W.top, s _ _ W.dic, fun e he => (W.say e he).same s, W.nk, W.nda, W.ndv, W.dv, W.pa, W.sz⟩
def findE (es : List Ent) (n : Int) : Option Ent := es.find? fun e => decide (e.n = n)
theorem findE_mem {es : List Ent} {n : Int} {e : Ent} (h : findE es n = some e) : e ∈ es ∧ e.n = n := ⟨List.mem_of_find?_eq_some h, by have := List.find?_some h; simpa using this⟩
theorem findE_of {es : List Ent} (nk : (es.map (·.n)).Nodup) {e : Ent} (he : e ∈ es) : findE es e.n = some e := by
  induction es with
  | nil => cases he
  | cons q r ih =>
    simp only [List.map_cons, List.nodup_cons] at nk
    unfold findE
    rw [List.find?_cons]
    rcases List.mem_cons.mp he with rfl | he
    · simp
    · have h : ¬ q.n = e.n := fun z => nk.1 (List.mem_map.mpr ⟨e, he, z.symm⟩)
      simp only [h, decide_false]
      exact ih nk.2 he
theorem valE (es : List Ent) (n : Int) : valV (es.map entK) (Sum.inl n) = (findE es n).map fun e => V.ref e.a := by
  induction es with
  | nil => rfl
  | cons q r ih =>
    unfold findE
    rw [List.map_cons, List.find?_cons]
    by_cases h : q.n = n
    · rw [valV_pos (show (entK q).1 = Sum.inl n from congrArg Sum.inl h)]
      simp [h, entK]
    · rw [valV_neg (show ¬ (entK q).1 = Sum.inl n from fun e => h (Sum.inl.inj e)), ih]
      simp only [h, decide_false]
      rfl
section
variable {K : PySem.W.Frag} {mg : Str → Option Value} {base : Heap} {H : Hp} {L : Lay} {R : V → Prop}
theorem WoodAt.fsay (W : WoodAt K H L) (T : Txt K mg base) (q : R (.ref L.d)) : ∃ C dx fs, H L.p = some (.ins C dx fs) ∧ Cls K C ∧ NoAttr K C "sayings" ∧ ∃ v, fs.lookup (Str.ofString "sayings") = some v ∧ R v := fld W.top T.c_Wood.c T.n_Wood_sayings (fw_sayings _ _ _) q
theorem WoodAt.fcame (W : WoodAt K H L) (T : Txt K mg base) (q : R (.int L.came)) : ∃ C dx fs, H L.p = some (.ins C dx fs) ∧ Cls K C ∧ NoAttr K C "came" ∧ ∃ v, fs.lookup (Str.ofString "came") = some v ∧ R v := fld W.top T.c_Wood.c T.n_Wood_came (fw_came _ _ _) q
theorem WoodAt.fclock (W : WoodAt K H L) (T : Txt K mg base) (q : R (.int L.clock)) : ∃ C dx fs, H L.p = some (.ins C dx fs) ∧ Cls K C ∧ NoAttr K C "clock" ∧ ∃ v, fs.lookup (Str.ofString "clock") = some v ∧ R v := fld W.top T.c_Wood.c T.n_Wood_clock (fw_clock _ _ _) q
/-- o[n], n there -/
theorem WoodAt.at {R : V → Prop} (W : WoodAt K H L) {n : Int} {e : Ent} (he : findE L.ents n = some e) (q : R (.ref e.a)) : ∃ a, V.ref L.d = V.ref a ∧ ∃ x, DGet H a (.int n) (some x) ∧ R x :=
  ⟨_, rfl, _, .inl ⟨_, Sum.inl n, .inl W.dic, rfl, by rw [valE, he]; rfl⟩, q⟩
end
def sortI (l : List Int) : List Int := l.mergeSort fun a b => decide (a ≤ b)
theorem sortI_perm (l : List Int) : (sortI l).Perm l := List.mergeSort_perm l _
theorem sortI_le (l : List Int) : (sortI l).Pairwise (· ≤ ·) := by
  have h := List.pairwise_mergeSort (le := fun a b : Int => decide (a ≤ b)) (by intro a b c h1 h2; simp only [decide_eq_true_eq] at *; omega) (by intro a b; simp only [Bool.or_eq_true, decide_eq_true_eq]; omega) l
  exact h.imp fun h => by simpa using h
theorem sortI_eq {a b : List Int} (hp : a.Perm b) (ha : a.Pairwise (· ≤ ·)) : a = sortI b := (hp.trans (sortI_perm b).symm).eq_of_pairwise (fun x y _ _ h1 h2 => Int.le_antisymm h1 h2) ha (sortI_le b)
theorem sortI_self {a : List Int} (ha : a.Pairwise (· ≤ ·)) : sortI a = a := (sortI_eq (List.Perm.refl a) ha).symm
theorem sortI_length (l : List Int) : (sortI l).length = l.length := (sortI_perm l).length_eq
section
variable {P : Program} {w : World} {K : PySem.W.Frag} {mg : Str → Option Value} {base : Heap}
/-! ### Wood.__init__, now, tick -/
def spWoodInit (K : PySem.W.Frag) : Sp := fun vs H Q _ => ∃ (p dx : Addr), vs = [.ref p] ∧ H p = some (.ins (cW K) dx []) ∧
  ∀ d H', H d = none → WoodAt K H' ⟨p, dx, d, [], 0, 0⟩ → (∀ b o, b ≠ p → H b = some o → H' b = some o) → Q .non H'
abbrev N_Wood___init__ : List Str := ["self"]
theorem sc_Wood___init__ : FnScope N_Wood___init__ ["self"] (defScope s_Wood___init__) := ⟨rfl, rfl, rfl, by decide +kernel, rfl, by decide +kernel, by decide +kernel⟩
theorem be_Wood___init__ : BindEq "__init__" "Wood.__init__" s_Wood___init__ ["self"] := fun _ _ _ _ _ _ us hl => match us, hl with | [_], _ => rfl
theorem D_Wood___init__ (T : Txt K mg base) : Def P w K mg base 1 (He.ma K (He.ga K "Wood") "__init__") ["self"] (spWoodInit K) := by
  refine mk_def T.f_Wood___init__ sc_Wood___init__ be_Wood___init__ (fun vs H Q E h => ?_) (fun cdv A outer s H vs Q E hr h => ?_)
  · obtain ⟨a, x, rfl, _⟩ := h
    rfl
  · obtain ⟨p, dx, rfl, hp, k⟩ := h
    refine ⟨_, (pss_cons (ps_fld (pv 0) pe_dnewK (by rfl))
      (pss_cons (ps_fld (pv 0) pe_int (by rfl))
      (pss_one (ps_fld (pv 0) pe_int (by rfl))))), ?_⟩
    walk_at "rd"
    intro d hd
    have npd : p ≠ d := ne_of_none hp hd
    refine ⟨_, _, _, by rw [upd_ne npd]; exact hp, T.c_Wood.c, T.n_Wood_sayings, by decide, _, _, _, upd_same, T.c_Wood.c, T.n_Wood_came, by simp [putF], _, _, _, upd_same, T.c_Wood.c, T.n_Wood_clock, by simp [putF, ofString_inj], ?_⟩
    simp only [upd_upd]
    refine k d _ hd ⟨?_, ?_, (fun e he => nomatch he), List.nodup_nil, List.nodup_nil, List.nodup_nil, (fun e he => nomatch he), (fun e he => nomatch he), (by show 0 < 100000; decide)⟩ (fun b o hb e => ?_)
    · rw [upd_same]
      simp [putF, ofString_inj, woodFs]
    · rw [upd_ne npd.symm, upd_same]
      rfl
    · rw [upd_ne hb, upd_ne (ne_of_none e hd)]
      exact e
def spNow (K : PySem.W.Frag) : Sp := fun vs H Q _ => ∃ L : Lay, vs = [.ref L.p] ∧ WoodAt K H L ∧ Q (.int L.clock) H
abbrev N_Wood_now : List Str := ["self"]
theorem sc_Wood_now : FnScope N_Wood_now ["self"] (defScope s_Wood_now) := ⟨rfl, rfl, rfl, by decide +kernel, rfl, by decide +kernel, by decide +kernel⟩
theorem be_Wood_now : BindEq "now" "Wood.now" s_Wood_now ["self"] := fun _ _ _ _ _ _ us hl => match us, hl with | [_], _ => rfl
theorem D_Wood_now (T : Txt K mg base) : Def P w K mg base 1 (He.ma K (He.ga K "Wood") "now") ["self"] (spNow K) := by
  refine mk_def T.f_Wood_now sc_Wood_now be_Wood_now (fun vs H Q E h => ?_) (fun cdv A outer s H vs Q E hr h => ?_)
  · obtain ⟨L, rfl, _⟩ := h
    rfl
  · obtain ⟨L, rfl, W, k⟩ := h
    refine ⟨_, (pss_one (ps_ret (pe_fld (pv 0) (by rfl)))), ?_⟩
    walk_at "rd"
    exact W.fclock T k
theorem WoodAt.setTop {K : PySem.W.Frag} {H : Hp} {L : Lay} (W : WoodAt K H L) (c k : Int) : WoodAt K (upd H L.p (.ins (cW K) L.dx (woodFs L.d c k))) { L with came := c, clock := k } := by
  have npd : L.d ≠ L.p := ne_of W.dic W.top (by intro q; cases q)
  refine ⟨upd_same, by show upd H L.p _ L.d = _; rw [upd_ne npd]; exact W.dic, fun e he => ?_, W.nk, W.nda, W.ndv, W.dv, W.pa, W.sz⟩
  have S := W.say e he
  exact ⟨by rw [upd_ne (W.pa e he)]; exact S.o, by rw [upd_ne (ne_of S.d W.top (by intro q; cases q))]; exact S.d, S.nd, S.sz⟩
def spTick (K : PySem.W.Frag) : Sp := fun vs H Q E => ∃ (L : Lay) (x : V) (d : PyData), vs = [.ref L.p, x] ∧ WoodAt K H L ∧ Dp K H x d ∧
  (∀ n : Int, d = .int n → isCount d 0 1000 = true → ∀ H', WoodAt K H' { L with clock := L.clock + n } → (∀ b o, b ≠ L.p → H b = some o → H' b = some o) → Q .non H') ∧ (isCount d 0 1000 = false → Bad K E .number H)
/-! ### Wood.saying, numbers -/
def sayingD (L : Lay) (d : PyData) : Option Ent := match d with
  | .int n => if 1 ≤ n ∧ n ≤ L.came then findE L.ents n else none
  | _ => none
def spSaying (K : PySem.W.Frag) : Sp := fun vs H Q E => ∃ (L : Lay) (x : V) (d : PyData), vs = [.ref L.p, x] ∧ WoodAt K H L ∧ Dp K H x d ∧ (∀ e, sayingD L d = some e → Q (.ref e.a) H) ∧ (sayingD L d = none → Bad K E .no H)
abbrev N_Wood_saying : List Str := ["self", "number"]
theorem sc_Wood_saying : FnScope N_Wood_saying ["self", "number"] (defScope s_Wood_saying) := ⟨rfl, rfl, rfl, by decide +kernel, rfl, by decide +kernel, by decide +kernel⟩
theorem be_Wood_saying : BindEq "saying" "Wood.saying" s_Wood_saying ["self", "number"] := fun _ _ _ _ _ _ us hl => match us, hl with | [_, _], _ => rfl
theorem D_Wood_saying (T : Txt K mg base) : Def P w K mg base 2 (He.ma K (He.ga K "Wood") "saying") ["self", "number"] (spSaying K) := by
  refine mk_def T.f_Wood_saying sc_Wood_saying be_Wood_saying (fun vs H Q E h => ?_) (fun cdv A outer s H vs Q E hr h => ?_)
  · obtain ⟨L, x, d, rfl, _⟩ := h
    rfl
  · obtain ⟨L, x, d, rfl, W, hx, k1, k0⟩ := h
    refine ⟨_, (pss_cons (ps_if (PW.pt (pw_or (pt_not (pt_val (pe_cd (D_is_count T) (by exact hr.mono (by first | decide | omega)) T.g_is_count passE (pa_cons (pv 1) (pa_cons pe_int (pa_cons (pe_fld (pv 0) (by rfl)) pa_nil)))))) (pw_or1 (pt_cmp (pc_dni (pv 1) (pe_fld (pv 0) (by rfl)) (by exact hu_of hr)))))) (pss_one (ps_rs T.x_NoSaying)) pss_nil)
      (pss_one (ps_ret (pe_dg (pe_fld (pv 0) (by rfl)) (pv 1) (by exact hu_of hr))))), ?_⟩
    walk_at "rd"
    refine W.fcame T ⟨x, d, 1, L.came, rfl, hx, _, rfl, ?_⟩
    cases c : isCount d 1 L.came with
    | false =>
      refine iteT (k0 ?_)
      cases d with
      | int n =>
        have h : ¬ (1 ≤ n ∧ n ≤ L.came) := fun h => by simp [isCount, h.1, h.2] at c
        exact if_neg h
      | _ => rfl
    | true =>
      refine iteF ?_
      cases hx with
      | int n =>
        have h : 1 ≤ n ∧ n ≤ L.came := by simpa [isCount] using c
        have es : sayingD L (.int n) = findE L.ents n := if_pos h
        refine W.fsay T ⟨_, rfl, _, .inl ⟨_, Sum.inl n, .inl W.dic, rfl, rfl⟩, ?_⟩
        rw [valE]
        cases f : findE L.ents n with
        | none => exact iteT (k0 (es.trans f))
        | some e => exact iteF (W.fsay T (W.at f (k1 e (es.trans f))))
      | _ => cases c
def spNumbers (K : PySem.W.Frag) : Sp := fun vs H Q _ => ∃ L : Lay, vs = [.ref L.p] ∧ WoodAt K H L ∧ L.ents.length < 64 ∧ ∀ p H', H p = none → Same H H' → H' p = some (.lst ((sortI (L.ents.map (·.n))).map V.int)) → Q (.ref p) H'
abbrev N_Wood_numbers : List Str := ["self"]
theorem sc_Wood_numbers : FnScope N_Wood_numbers ["self"] (defScope s_Wood_numbers) := ⟨rfl, rfl, rfl, by decide +kernel, rfl, by decide +kernel, by decide +kernel⟩
theorem be_Wood_numbers : BindEq "numbers" "Wood.numbers" s_Wood_numbers ["self"] := fun _ _ _ _ _ _ us hl => match us, hl with | [_], _ => rfl
theorem D_Wood_numbers (T : Txt K mg base) : Def P w K mg base 1 (He.ma K (He.ga K "Wood") "numbers") ["self"] (spNumbers K) := by
  refine mk_def T.f_Wood_numbers sc_Wood_numbers be_Wood_numbers (fun vs H Q E h => ?_) (fun cdv A outer s H vs Q E hr h => ?_)
  · obtain ⟨L, rfl, _⟩ := h
    rfl
  · obtain ⟨L, rfl, W, hl, k⟩ := h
    refine ⟨_, (pss_one (ps_ret (pe_callB (call_sortedDI rfl) (by rfl) T.b_sorted (by decide +kernel) (pa_cons (pe_fld (pv 0) (by rfl)) pa_nil)))), ?_⟩
    walk_at "rd"
    refine W.fsay T ⟨_, rfl, _, .inl W.dic, L.ents.map (·.n), ?_, by simpa using hl, fun ys p hp hs hn => ?_⟩
    · simp [entK]
    · rw [sortI_eq hp hs]
      exact k p _ hn (Same.new hn) upd_same
end
end Vw
namespace Vw
open PySem PySem.Spec PyProof.Rows L2
local macro_rules | `(tactic| walk_at "rd") => `(tactic| simp only [tSeq, tNext, tIfS, tAsg, tRet, tRetN, tDrop, tVar, tC, tOp, tUn, tTest, tB, tAnd, tOr, tNot, tAndV, tOrV, tNotV, tIf, tChain, tCB, tCons, tNil, tCall, tMeth, tMake, tFld, sFld, tTup, tLst, tTupS, tLstS, tDNewKS, tDNewTS, tTold, tCmp, t2I, tIsN, tNotN, tPar, gName, gNil, gCons, gTup, gSub, rI0, rU, rEq, rNe, tDGet, tDIn, tDNotIn, sDPut, tDNewK, tDGet1, tDGet2, tDPop1, tDPop2, tBM, tBM0, tM0, tM1, tSl, tPart, tNoPart, tBreak, tCont, tThru, L2.start, List.map_cons, List.map_nil, List.length_cons, List.length_nil, List.cons_append, List.nil_append, List.append_nil, List.replicate_succ, List.replicate_zero, Nat.reduceAdd, Nat.reduceSub, Nat.zero_add, List.getElem?_cons_zero, List.getElem?_cons_succ, List.set_cons_zero, List.set_cons_succ, wipe, cxOf_K, tYes, List.cons.injEq, and_self, Option.some.injEq, V.int.injEq, V.bl.injEq, V.ref.injEq, V.str.injEq, exists_eq_left', exists_eq_left, exists_and_left, and_assoc, true_and, and_true, if_true, if_false, ite_true, ite_false, Bool.not_true, Bool.not_false, Bool.false_eq_true, reduceIte])
def Lay.rows (L : Lay) : Rows := L.ents.map fun e => (e.n, e.row)
def Lay.wd (L : Lay) : Wd := ⟨L.rows, L.came, L.clock⟩
theorem findRE (es : List Ent) (n : Int) : findR (es.map fun e => (e.n, e.row)) n = (findE es n).map (·.row) := by
  unfold findR findE
  rw [List.find?_map]
  show Option.map _ (Option.map _ (List.find? (fun e => decide (e.n = n)) es)) = _
  cases List.find? (fun e => decide (e.n = n)) es <;> rfl
theorem Lay.find (L : Lay) (n : Int) : findR L.rows n = (findE L.ents n).map (·.row) := findRE _ _
theorem sayingME (L : Lay) (d : PyData) : sayingM L.wd d = (sayingD L d).map fun e => (e.n, e.row) := by
  cases d with
  | int n =>
    unfold sayingM sayingD
    by_cases h : 1 ≤ n ∧ n ≤ L.came
    · show (if 1 ≤ n ∧ n ≤ L.came then _ else _) = Option.map _ (if 1 ≤ n ∧ n ≤ L.came then _ else _)
      rw [if_pos h, if_pos h]
      show Option.map _ (findR L.rows n) = _
      rw [L.find]
      cases f : findE L.ents n with
      | none => rfl
      | some e =>
        have := (findE_mem f).2
        simp [this]
    · show (if 1 ≤ n ∧ n ≤ L.came then _ else _) = Option.map _ (if 1 ≤ n ∧ n ≤ L.came then _ else _)
      rw [if_neg h, if_neg h]
      rfl
  | _ => rfl
theorem sayingD_mem {L : Lay} {d : PyData} {e : Ent} (h : sayingD L d = some e) : e ∈ L.ents := by
  cases d with
  | int n =>
    unfold sayingD at h
    by_cases c : 1 ≤ n ∧ n ≤ L.came
    · exact (findE_mem ((if_pos c).symm.trans h)).1
    · have h' : (none : Option Ent) = some e := (if_neg c).symm.trans h
      cases h'
  | _ => cases h
theorem use_neD {K : PySem.W.Frag} {H : Hp} {x y : V} {d e : PyData} {Q : VK} (hx : Dp K H x d) (hy : Dp K H y e) (s1 : SeqAt.shaped d = true) (s2 : SeqAt.shaped e = true) (q : Q (.bl (!PyData.eqv d e)) H) : rNeD K x y H Q := ⟨d, e, hx, hy, s1, s2, q⟩
theorem use_eqD {K : PySem.W.Frag} {H : Hp} {x y : V} {d e : PyData} {Q : VK} (hx : Dp K H x d) (hy : Dp K H y e) (s1 : SeqAt.shaped d = true) (s2 : SeqAt.shaped e = true) (q : Q (.bl (PyData.eqv d e)) H) : rEqD K x y H Q := ⟨d, e, hx, hy, s1, s2, q⟩
theorem eqv_str (a b : Str) : PyData.eqv (.str a) (.str b) = decide (a = b) := by
  first
  | rfl
  | simp [PyData.eqv]
theorem eqv_int (a b : Int) : PyData.eqv (.int a) (.int b) = decide (a = b) := by
  first
  | rfl
  | simp [PyData.eqv]
theorem filterMap_if {α β : Type} {l : List α} {c : α → Prop} [DecidablePred c] {f : α → β} : (l.filterMap fun p => if c p then some (f p) else none) = (l.filter fun p => decide (c p)).map f := by
  induction l with
  | nil => rfl
  | cons a r ih =>
    by_cases h : c a
    · simp [List.filterMap_cons, List.filter_cons, h, ih]
    · simp [List.filterMap_cons, List.filter_cons, h, ih]
theorem filter_sortI (l : List Int) (c : Int → Bool) : (sortI l).filter c = sortI (l.filter c) := sortI_eq ((sortI_perm l).filter c) ((sortI_le l).sublist List.filter_sublist)
theorem dps_ints {K : PySem.W.Frag} {H : Hp} : ∀ ns : List Int, DpAll K H (ns.map V.int) (ns.map PyData.int)
  | [] => .nil
  | n :: r => .cons (.int n) (dps_ints r)
theorem canLay_ints : ∀ ns : List Int, PyData.canLayAll0 (ns.map PyData.int) = true
  | [] => rfl
  | n :: r => by simp only [List.map_cons, PyData.canLayAll0, PyData.canLay0, canLay_ints r, Bool.and_self]
theorem depth_ints : ∀ ns : List Int, PyData.depthAll (ns.map PyData.int) = 0
  | [] => rfl
  | n :: r => by simp only [List.map_cons, PyData.depthAll, PyData.depth, depth_ints r, Nat.max_self]
theorem shaped_ints (ns : List Int) : SeqAt.shaped (.list (ns.map PyData.int)) = true := by
  simp [SeqAt.shaped, PyData.canLay0, PyData.depth, canLay_ints, depth_ints]
theorem eqvAll_ints : ∀ a b : List Int, PyData.eqvAll (a.map PyData.int) (b.map PyData.int) = decide (a = b)
  | [], [] => by simp [PyData.eqvAll]
  | [], _ :: _ => by simp [PyData.eqvAll]
  | _ :: _, [] => by simp [PyData.eqvAll]
  | x :: a, y :: b => by
    simp only [List.map_cons, PyData.eqvAll, eqvAll_ints a b, eqv_int]
    by_cases h : x = y <;> by_cases h2 : a = b <;> simp [h, h2]
theorem eqv_ints (a b : List Int) : PyData.eqv (.list (a.map PyData.int)) (.list (b.map PyData.int)) = decide (a = b) := by
  simp only [PyData.eqv, eqvAll_ints]
theorem dp_ints {K : PySem.W.Frag} {H : Hp} {p : Addr} {ns : List Int} (h : H p = some (.lst (ns.map V.int))) : Dp K H (.ref p) (.list (ns.map PyData.int)) := .lst (SqL.of h) (dps_ints ns)
/-- there, or 0 -/
def Here (L : Lay) (n : Int) : Prop := n = 0 ∨ ∃ e, findE L.ents n = some e
section
variable {P : Program} {w : World} {K : PySem.W.Frag} {mg : Str → Option Value} {base : Heap}
def spDeep (K : PySem.W.Frag) : Sp := fun vs H Q _ => ∃ (L : Lay) (n : Int), vs = [.ref L.p, .int n] ∧ WoodAt K H L ∧ Wf L.rows ∧ Here L n ∧ Q (.int (deepI L.rows n : Nat)) H
abbrev N_Wood_deep : List Str := ["self", "number", "found"]
theorem sc_Wood_deep : FnScope N_Wood_deep ["self", "number"] (defScope s_Wood_deep) := ⟨rfl, rfl, rfl, by decide +kernel, rfl, by decide +kernel, by decide +kernel⟩
theorem be_Wood_deep : BindEq "deep" "Wood.deep" s_Wood_deep ["self", "number"] := fun _ _ _ _ _ _ us hl => match us, hl with | [_, _], _ => rfl
theorem D_Wood_deep (T : Txt K mg base) : Def P w K mg base 1 (He.ma K (He.ga K "Wood") "deep") ["self", "number"] (spDeep K) := by
  refine mk_def T.f_Wood_deep sc_Wood_deep be_Wood_deep (fun vs H Q E h => ?_) (fun cdv A outer s H vs Q E hr h => ?_)
  · obtain ⟨L, n, rfl, _⟩ := h
    rfl
  · obtain ⟨L, n, rfl, W, F, hn, k⟩ := h
    refine ⟨_, (pss_cons (ps_set (i := 2) sc_Wood_deep.nd rfl (Or.inl rfl) pe_int)
      (pss_cons (ps_while ownE (PW.pt (pw_and (pt_cmpR op_ne (pv 1) pe_int (nomark _)) (pw_and1 (pt_cmpR op_ne (pe_fld (pe_dg (pe_fld (pv 0) (by rfl)) (pv 1) (by exact hu_of hr)) (by rfl)) pe_int (nomark _))))) (pss_cons (ps_set (i := 1) sc_Wood_deep.nd rfl (Or.inl rfl) (pe_fld (pe_dg (pe_fld (pv 0) (by rfl)) (pv 1) (by exact hu_of hr)) (by rfl)))
      (pss_one (ps_set (i := 2) sc_Wood_deep.nd rfl (Or.inl rfl) (pe_op op_add (pv 2) pe_int)))))
      (pss_one (ps_ret (pv 2))))), ?_⟩
    walk_at "rd"
    refine ⟨fun m σ H' => H' = H ∧ ∃ (i : Int) (f : Nat), σ = [some (.ref L.p), some (.int i), some (.int f)] ∧ m = i.toNat ∧ Here L i ∧ f + deepI L.rows i = deepI L.rows n, ⟨_, rfl, n, 0, rfl, rfl, hn, by omega⟩, ?_⟩
    rintro m σ H' ⟨rfl, i, f, rfl, rfl, hi, ef⟩
    walk_at "rd"
    refine ⟨rfl, ?_⟩
    by_cases h0 : i = 0
    · rw [decide_eq_true h0]
      refine iteF ?_
      have e0 : deepI L.rows i = 0 := by rw [h0]; simp [deepI, above_zero]
      rw [show f = deepI L.rows n by omega]
      exact k
    · rw [decide_eq_false h0]
      obtain ⟨e, he⟩ := hi.resolve_left h0
      have S := W.say e (findE_mem he).1
      have hr : findR L.rows i = some e.row := by rw [L.find, he]; rfl
      have ab := F.above hr
      obtain ⟨_, p1, p2, p3⟩ := F.up hr
      refine iteT (W.fsay T (W.at he ⟨_, rfl, S.funder T ⟨rfl, ?_⟩⟩))
      by_cases u0 : e.row.under = 0
      · rw [decide_eq_true (show V.int e.row.under = V.int 0 by rw [u0])]
        refine iteF ?_
        have e0 : deepI L.rows i = 0 := by simp [deepI, ab, u0, above_zero]
        rw [show f = deepI L.rows n by omega]
        exact k
      · rw [decide_eq_false (show ¬ V.int e.row.under = V.int 0 from fun z => u0 (V.int.inj z))]
        have hu : Here L e.row.under := by
          rcases F.has _ (findR_mem hr) with z | ⟨r, z⟩
          · exact absurd z u0
          · right
            rw [L.find] at z
            cases q : findE L.ents e.row.under with
            | none => rw [q] at z; cases z
            | some e' => exact ⟨e', rfl⟩
        have hd : deepI L.rows i = deepI L.rows e.row.under + 1 := by
          obtain ⟨e', q⟩ := hu.resolve_left u0
          have ab' := F.above (n := e.row.under) (r := e'.row) (by rw [L.find, q]; rfl)
          simp [deepI, ab, ab']
        refine iteT ⟨_, fun _ _ h => h, W.fsay T (W.at he ⟨_, rfl, S.funder T ⟨e.row.under.toNat, by omega, rfl, e.row.under, f + 1, ?_, rfl, hu, by omega⟩⟩)⟩
        simp
def spLook (K : PySem.W.Frag) : Sp := fun vs H Q E => ∃ (L : Lay) (x : V) (d : PyData), vs = [.ref L.p, x] ∧ WoodAt K H L ∧ Dp K H x d ∧ (∀ e, sayingD L d = some e → ∀ p H', H p = none → Same H H' → H' p = some (.tup [.str e.row.who, .int e.row.under, if e.row.struck then .non else .str e.row.text, .int e.row.time]) → Q (.ref p) H') ∧ (sayingD L d = none → Bad K E .no H)
def spOwn (K : PySem.W.Frag) : Sp := fun vs H Q E => ∃ (L : Lay) (x y : V) (d b : PyData), vs = [.ref L.p, x, y] ∧ WoodAt K H L ∧ Dp K H x d ∧ Dp K H y b ∧ Short b ∧ (∀ r, ownM L.wd d b = .error r → ∀ H', Same H H' → Bad K E r H') ∧ (∀ n r, ownM L.wd d b = .ok (n, r) → ∀ e, findE L.ents n = some e → e.row = r → ∀ H', Same H H' → Q (.ref e.a) H')
abbrev N_Wood_own : List Str := ["self", "number", "by", "one"]
theorem sc_Wood_own : FnScope N_Wood_own ["self", "number", "by"] (defScope s_Wood_own) := ⟨rfl, rfl, rfl, by decide +kernel, rfl, by decide +kernel, by decide +kernel⟩
theorem be_Wood_own : BindEq "own" "Wood.own" s_Wood_own ["self", "number", "by"] := fun _ _ _ _ _ _ us hl => match us, hl with | [_, _, _], _ => rfl
theorem D_Wood_own (T : Txt K mg base) : Def P w K mg base 3 (He.ma K (He.ga K "Wood") "own") ["self", "number", "by"] (spOwn K) := by
  refine mk_def T.f_Wood_own sc_Wood_own be_Wood_own (fun vs H Q E h => ?_) (fun cdv A outer s H vs Q E hr h => ?_)
  · obtain ⟨L, x, y, d, b, rfl, _⟩ := h
    rfl
  · obtain ⟨L, x, y, d, b, rfl, W, hx, hy, hz, k0, k1⟩ := h
    refine ⟨_, (pss_cons (ps_set (i := 3) sc_Wood_own.nd rfl (Or.inl rfl) (pe_md (pv 0) T.c_Wood.c T.m_Wood_saying (D_Wood_saying T) (by exact hr.mono (by first | decide | omega)) passE (pa_cons (pv 1) pa_nil)))
      (pss_cons (ps_expr (pe_cd (D_need_name T) (by exact hr.mono (by first | decide | omega)) T.g_need_name passE (pa_cons (pv 2) pa_nil)))
      (pss_cons (ps_if (PW.pt (pw_or (pt_cmpR op_ne (pe_fld (pv 3) (by rfl)) (pv 2) (nomark _)) (pw_or1 (pt_val (pe_fld (pv 3) (by rfl)))))) (pss_one (ps_rs T.x_NotYours)) pss_nil)
      (pss_one (ps_ret (pv 3)))))), ?_⟩
    walk_at "rd"
    refine ⟨_, _, W.top, fw_no _ _ _ (by decide) (by decide) (by decide), L, x, d, rfl, W, hx, fun e he => ?_, fun h => k0 _ ?_ H (Same.refl H)⟩
    · have S := W.say e (sayingD_mem he)
      have em : sayingM L.wd d = some (e.n, e.row) := by rw [sayingME, he]; rfl
      refine ⟨y, b, rfl, hy, hz, fun hb H1 s1 => ?_, fun hb H1 s1 => k0 _ ?_ H1 s1⟩
      · have S1 := S.same s1
        have hb0 : ¬ nameOk b = false := by rw [hb]; decide
        cases hy with
        | str z =>
          refine ⟨_, rfl, S1.fby T ⟨rfl, ?_⟩⟩
          have eo : ownM L.wd d (.str z) = if isS (.str z) e.row.who = true ∧ e.row.struck = false then .ok (e.n, e.row) else .error .yours := by
            unfold ownM
            rw [em]
            exact if_neg hb0
          by_cases hw : e.row.who = z
          · rw [decide_eq_true (show V.str e.row.who = V.str z by rw [hw])]
            refine iteF ⟨_, rfl, S1.fstruck T ⟨_, rfl, ?_⟩⟩
            cases c : e.row.struck with
            | true =>
              refine iteT (k0 .yours ?_ H1 s1)
              rw [eo, c]
              simp
            | false =>
              refine iteF (k1 e.n e.row ?_ e (findE_of W.nk (sayingD_mem he)) rfl H1 s1)
              rw [eo, c]
              simp [isS, hw]
          · rw [decide_eq_false (show ¬ V.str e.row.who = V.str z from fun q => hw (V.str.inj q))]
            refine iteT (k0 .yours ?_ H1 s1)
            rw [eo]
            simp [isS, Ne.symm hw]
        | _ => cases hb
      · unfold ownM
        rw [em]
        exact if_pos hb
    · unfold ownM
      rw [sayingME, h]
      rfl
def spReplies (K : PySem.W.Frag) : Sp := fun vs H Q E => ∃ (L : Lay) (n : Int), vs = [.ref L.p, .int n] ∧ WoodAt K H L ∧ L.ents.length < 64 ∧ ∀ p H', H p = none → Same H H' → H' p = some (.lst ((sortI (repliesR L.rows n)).map V.int)) → Q (.ref p) H'
abbrev N_Wood_replies : List Str := ["self", "number", "one"]
theorem sc_Wood_replies : FnScope N_Wood_replies ["self", "number"] (defScope s_Wood_replies) := ⟨rfl, rfl, rfl, by decide +kernel, rfl, by decide +kernel, by decide +kernel⟩
theorem be_Wood_replies : BindEq "replies" "Wood.replies" s_Wood_replies ["self", "number"] := fun _ _ _ _ _ _ us hl => match us, hl with | [_, _], _ => rfl
theorem D_Wood_replies (T : Txt K mg base) : Def P w K mg base 2 (He.ma K (He.ga K "Wood") "replies") ["self", "number"] (spReplies K) := by
  refine mk_def T.f_Wood_replies sc_Wood_replies be_Wood_replies (fun vs H Q E h => ?_) (fun cdv A outer s H vs Q E hr h => ?_)
  · obtain ⟨L, n, rfl, _⟩ := h
    rfl
  · obtain ⟨L, n, rfl, W, hl, k⟩ := h
    refine ⟨_, (pss_one (ps_ret (pe_lc (own := [("one", 2)]) (g := gName 2) rfl sc_Wood_replies.nd (pi_list (pe_md0 (pv 0) T.c_Wood.c T.m_Wood_numbers (D_Wood_numbers T) (by exact hr.mono (by first | decide | omega)) passE)) (blkOk_by (N := N_Wood_replies) (sc := defScope s_Wood_replies) (by decide +kernel)) (fun _ _ _ _ _ => by exact (pg_name (i := 2) sc_Wood_replies.nd rfl (Or.inl rfl))) (fun _ _ _ _ _ => by exact (pts_one (pt_cmpR op_eq (pe_fldK K (pe_dg (pe_fldK K (pv 0)) (pv 2) (by exact hu_of hr))) (pv 1) (nomark _)))) (fun _ _ _ _ _ => by exact (pv 2))))), ?_⟩
    walk_at "rd"
    refine lcL (l := sortI (L.ents.map (·.n))) V.int (fun m => if upR L.rows m = n then some (.int m) else none) (fun R r => ?_) (by rw [sortI_length, List.length_map, sizeLine_eq]; omega) (fun m H' hm s1 N1 N0 q1 q0 => ?_) (fun D H' hD s1 e => k D H' hD s1 ?_)
    · walk_at "rd"
      exact ⟨_, _, W.top, fw_no _ _ _ (by decide) (by decide) (by decide), L, rfl, W, hl, fun p H' hp s1 e => r p H' s1 (SqL.of e)⟩
    · have W1 := W.same s1
      obtain ⟨e, he, rfl⟩ : ∃ e, e ∈ L.ents ∧ e.n = m := by
        have := (sortI_perm _).mem_iff.mp hm
        simpa using this
      have fe := findE_of W.nk he
      have S := W1.say e he
      have eu : upR L.rows e.n = e.row.under := by unfold upR; rw [L.find, fe]; rfl
      walk_at "rd"
      refine W1.fsay T (W1.at fe ⟨_, rfl, S.funder T ⟨rfl, ?_⟩⟩)
      by_cases c : e.row.under = n
      · rw [decide_eq_true (show V.int e.row.under = V.int n by rw [c])]
        exact iteT (q1 _ _ (Same.refl _) (if_pos (eu.trans c)))
      · rw [decide_eq_false (show ¬ V.int e.row.under = V.int n from fun z => c (V.int.inj z))]
        exact iteF (q0 _ (Same.refl _) (if_neg fun z => c (eu.symm.trans z)))
    · rw [e, filterMap_if, filter_sortI]
      have : (L.ents.map (·.n)).filter (fun m => decide (upR L.rows m = n)) = repliesR L.rows n := by
        unfold repliesR Lay.rows
        rw [List.filter_map, List.filter_map, List.map_map]
        show List.map _ _ = List.map _ _
        congr 1
        apply List.filter_congr
        intro e he
        show decide (upR L.rows e.n = n) = decide (e.row.under = n)
        have fe := findE_of W.nk he
        have eu : upR L.rows e.n = e.row.under := by unfold upR; rw [L.find, fe]; rfl
        rw [eu]
      rw [this]
end
end Vw
namespace Vw
open PySem PySem.Spec PyProof.Rows L2
local macro_rules | `(tactic| walk_at "rd") => `(tactic| simp only [tSeq, tNext, tIfS, tAsg, tRet, tRetN, tDrop, tVar, tC, tOp, tUn, tTest, tB, tAnd, tOr, tNot, tAndV, tOrV, tNotV, tIf, tChain, tCB, tCons, tNil, tCall, tMeth, tMake, tFld, sFld, tTup, tLst, tTupS, tLstS, tDNewKS, tDNewTS, tTold, tCmp, t2I, tIsN, tNotN, tPar, gName, gNil, gCons, gTup, gSub, rI0, rU, rEq, rNe, tDGet, tDIn, tDNotIn, sDPut, tDNewK, tDGet1, tDGet2, tDPop1, tDPop2, tBM, tBM0, tM0, tM1, tSl, tPart, tNoPart, tBreak, tCont, tThru, L2.start, List.map_cons, List.map_nil, List.length_cons, List.length_nil, List.cons_append, List.nil_append, List.append_nil, List.replicate_succ, List.replicate_zero, Nat.reduceAdd, Nat.reduceSub, Nat.zero_add, List.getElem?_cons_zero, List.getElem?_cons_succ, List.set_cons_zero, List.set_cons_succ, wipe, cxOf_K, tYes, List.cons.injEq, and_self, Option.some.injEq, V.int.injEq, V.bl.injEq, V.ref.injEq, V.str.injEq, exists_eq_left', exists_eq_left, exists_and_left, and_assoc, true_and, and_true, if_true, if_false, ite_true, ite_false, Bool.not_true, Bool.not_false, Bool.false_eq_true, reduceIte])
section
variable {P : Program} {w : World} {K : PySem.W.Frag} {mg : Str → Option Value} {base : Heap}
def spVotesOf (K : PySem.W.Frag) : Sp := fun vs H Q E => ∃ (L : Lay) (x : V) (d : PyData), vs = [.ref L.p, x] ∧ WoodAt K H L ∧ Dp K H x d ∧ (∀ e, sayingD L d = some e → ∀ p H', H p = none → Same H H' → H' p = some (.tup [.int e.row.ups, .int e.row.downs]) → Q (.ref p) H') ∧ (sayingD L d = none → Bad K E .no H)
/-! ### Wood.below, many -/
theorem perm_flatMap {α β : Type} {f g : α → List β} : ∀ {l : List α}, (∀ a ∈ l, (f a).Perm (g a)) → (l.flatMap f).Perm (l.flatMap g)
  | [], _ => List.Perm.refl _
  | a :: r, h => by
    rw [List.flatMap_cons, List.flatMap_cons]
    exact (h a List.mem_cons_self).append (perm_flatMap fun b hb => h b (List.mem_cons_of_mem _ hb))
theorem below_perm {rs : Rows} (F : Wf rs) (n : Int) : ((sortI (repliesR rs n)).flatMap fun c => c :: sortI (beneathR rs c)).Perm (beneathR rs n) :=
  ((sortI_perm _).flatMap_right _).trans ((perm_flatMap fun c _ => (sortI_perm (beneathR rs c)).cons c).trans (beneath_step F n))
theorem below_len {rs : Rows} (F : Wf rs) (n : Int) (i : Nat) : (((sortI (repliesR rs n)).take i).flatMap fun c => c :: sortI (beneathR rs c)).length ≤ rs.length := by
  have h1 := (below_perm F n).length_eq
  have h2 : (beneathR rs n).length ≤ rs.length := by
    unfold beneathR
    exact Nat.le_trans (List.length_filter_le _ _) (by rw [List.length_map]; omega)
  have h3 : ((sortI (repliesR rs n)).flatMap fun c => c :: sortI (beneathR rs c)).length = (((sortI (repliesR rs n)).take i).flatMap fun c => c :: sortI (beneathR rs c)).length + (((sortI (repliesR rs n)).drop i).flatMap fun c => c :: sortI (beneathR rs c)).length := by
    rw [← List.length_append, ← List.flatMap_append, List.take_append_drop]
  omega
/-- how many under one are not struck -/
def manyR (rs : Rows) (n : Int) : Nat := ((beneathR rs n).filter fun m => ((findR rs m).map fun r => !r.struck).getD false).length
def isZero : PyData → Bool
  | .int n => decide (n = 0)
  | _ => false
theorem underOk_iff (L : Lay) {d : PyData} (z : isZero d = false) : underOk L.wd d = true ↔ ∃ e, sayingD L d = some e := by
  cases d with
  | int n =>
    have hn : ¬ n = 0 := by simpa [isZero] using z
    simp only [underOk, sayingD, Bool.or_eq_true, Bool.and_eq_true, decide_eq_true_eq, hn, false_or]
    show (1 ≤ n ∧ n ≤ L.came) ∧ (findR L.rows n).isSome = true ↔ _
    rw [L.find]
    constructor
    · rintro ⟨h1, h2⟩
      rw [if_pos h1]
      cases f : findE L.ents n with
      | none => rw [f] at h2; cases h2
      | some e => exact ⟨e, rfl⟩
    · rintro ⟨e, h⟩
      by_cases c : 1 ≤ n ∧ n ≤ L.came
      · rw [if_pos c] at h
        exact ⟨c, by rw [h]; rfl⟩
      · rw [if_neg c] at h
        cases h
  | _ => simp [underOk, sayingD]
def spBelow (K : PySem.W.Frag) (k : Nat) : Sp := fun vs H Q E => ∃ (L : Lay) (x : V) (d : PyData), vs = [.ref L.p, x] ∧ WoodAt K H L ∧ Good L.wd ∧ Dp K H x d ∧ SeqAt.shaped d = true ∧ (∀ n, d = .int n → 8 ≤ (aboveR L.rows n).length + k) ∧
  (underOk L.wd d = false → Bad K E .no H) ∧ (∀ n, d = .int n → underOk L.wd d = true → ∀ p H', H p = none → Same H H' → H' p = some (.lst ((sortI (beneathR L.rows n)).map V.int)) → Q (.ref p) H')
abbrev N_Wood_below : List Str := ["self", "number", "found", "one"]
theorem sc_Wood_below : FnScope N_Wood_below ["self", "number"] (defScope s_Wood_below) := ⟨rfl, rfl, rfl, by decide +kernel, rfl, by decide +kernel, by decide +kernel⟩
theorem be_Wood_below : BindEq "below" "Wood.below" s_Wood_below ["self", "number"] := fun _ _ _ _ _ _ us hl => match us, hl with | [_, _], _ => rfl
theorem D_below_none (T : Txt K mg base) : Def P w K mg base 1 (He.ma K (He.ga K "Wood") "below") ["self", "number"] (fun _ _ _ _ => False) :=
  mk_def T.f_Wood_below sc_Wood_below be_Wood_below (fun _ _ _ _ h => h.elim) (fun _ _ _ _ _ _ _ _ _ h => h.elim)
theorem below_body (T : Txt K mg base) (k j : Nat) (sp : Sp) (D_Wood_below : Txt K mg base → Def P w K mg base (j + 3) (He.ma K (He.ga K "Wood") "below") ["self", "number"] sp)
    (hsp : ∀ (L : Lay) (c : Int) (H : Hp) (Q : VK) (E : XK), WoodAt K H L → Good L.wd → (∃ r, findR L.rows c = some r) → 9 ≤ (aboveR L.rows c).length + k → (aboveR L.rows c).length ≤ 8 → k ≠ 0 ∨ (aboveR L.rows c).length ≠ 8 → (∀ p H', H p = none → Same H H' → H' p = some (.lst ((sortI (beneathR L.rows c)).map V.int)) → Q (.ref p) H') → sp [.ref L.p, .int c] H Q E) :
    Def P w K mg base (j + 4) (He.ma K (He.ga K "Wood") "below") ["self", "number"] (spBelow K k) := by
  refine mk_def T.f_Wood_below sc_Wood_below be_Wood_below (fun vs H Q E h => ?_) (fun cdv A outer s H vs Q E hr h => ?_)
  · obtain ⟨L, x, d, rfl, _⟩ := h
    rfl
  · obtain ⟨L, x, d, rfl, W, G, hx, hsh, hk, k0, k1⟩ := h
    refine ⟨_, (C8.pss_cut (ps_if (PW.pt (pw_or (pt_ned (pv 1) pe_int (by exact hr.units)) (pw_or1 (pt_val (pe_callB call_isi (by rfl) T.b_isinstance (by decide +kernel) (pa_cons (pv 1) (pa_cons (pe_bltn (v := .ty "bool") (by rfl) T.b_bool (by decide +kernel) rfl) pa_nil))))))) (pss_one (ps_expr (pe_md (pv 0) T.c_Wood.c T.m_Wood_saying (D_Wood_saying T) (by exact hr.mono (by first | decide | omega)) passE (pa_cons (pv 1) pa_nil)))) pss_nil)
      (pss_cons (ps_set (i := 2) sc_Wood_below.nd rfl (Or.inl rfl) (pe_lst pa_nil))
      (pss_cons (ps_for ownE rfl (pi_list (pe_md (pv 0) T.c_Wood.c T.m_Wood_replies (D_Wood_replies T) (by exact hr.mono (by first | decide | omega)) passE (pa_cons (pv 1) pa_nil))) (pg_name (i := 3) sc_Wood_below.nd rfl (Or.inl rfl))
      (pss_one (ps_set (i := 2) sc_Wood_below.nd rfl (Or.inl rfl) (pe_op op_cat (pe_op op_cat (pv 2) (pe_lst (pa_cons (pv 3) pa_nil))) (pe_md (pv 0) T.c_Wood.c T.m_Wood_below (D_Wood_below T) (by exact hr.mono (by first | decide | omega)) passE (pa_cons (pv 3) pa_nil))))))
      (pss_one (ps_ret (pe_callB cr_sorted (by rfl) T.b_sorted (by decide +kernel) (pa_cons (pv 2) pa_nil))))))), ?_⟩
    refine ⟨fun σ' H' => H' = H ∧ σ' = [some (.ref L.p), some x, none, none] ∧ underOk L.wd d = true, ?_, ?_⟩
    · walk_at "rd"
      have say : ∀ {Q' : VK}, (underOk L.wd d = true → Q' .non H) → isZero d = false → (∃ dx fs, H L.p = some (.ins (He.ga K "Wood") dx fs) ∧ fs.lookup (Str.ofString "saying") = none ∧ spSaying K [.ref L.p, x] H (fun _ H1 => Q' .non H1) E) := fun {Q'} q z => by
        refine ⟨_, _, W.top, fw_no _ _ _ (by decide) (by decide) (by decide), L, x, d, rfl, W, hx, fun e he => q ?_, fun h => k0 ?_⟩
        · exact (underOk_iff L z).mpr ⟨e, he⟩
        · cases c : underOk L.wd d with
          | false => rfl
          | true =>
            obtain ⟨e, he⟩ := (underOk_iff L z).mp c
            rw [he] at h
            cases h
      refine use_neD hx (.int 0) hsh rfl ⟨_, rfl, ?_⟩
      cases e0 : PyData.eqv d (.int 0) with
      | false =>
        refine iteT (say (Q' := fun _ H1 => H1 = H ∧ underOk L.wd d = true) (fun h => ⟨rfl, h⟩) ?_)
        cases d with
        | int n => 
          have : ¬ n = 0 := by rw [eqv_int] at e0; exact of_decide_eq_false e0
          simp [isZero, this]
        | _ => rfl
      | true =>
        refine iteF (use_isi hx (kit_bool _) ⟨_, rfl, ?_⟩)
        cases hx with
        | bl b => exact iteT (say (Q' := fun _ H1 => H1 = H ∧ underOk L.wd (.bool b) = true) (fun h => ⟨rfl, h⟩) rfl)
        | int n =>
          have : n = 0 := by rw [eqv_int] at e0; exact of_decide_eq_true e0
          subst this
          exact iteF ⟨rfl, rfl⟩
        | _ => cases e0
    · rintro σ' H' ⟨rfl, rfl, hu⟩
      obtain ⟨n, rfl⟩ : ∃ n, d = .int n := by
        cases d with
        | int n => exact ⟨n, rfl⟩
        | _ => cases hu
      cases hx
      have k2 := k1 n rfl hu
      have hk := hk n rfl
      walk_at "rd"
      refine ⟨Nat.zero_le _, fun q hq => ?_⟩
      have F : Wf L.rows := G.wf
      have hnn : n = 0 ∨ ∃ r, findR L.rows n = some r := by
        simp only [underOk, Bool.or_eq_true, Bool.and_eq_true, decide_eq_true_eq] at hu
        rcases hu with h | h
        · exact .inl h
        · exact .inr (Option.isSome_iff_exists.mp h.2)
      have hd8 := G.dp0 hnn
      refine forL (l := sortI (repliesR L.rows n)) V.int (fun R r => ?_)
        (fun p i σ' H1 => Same H' H1 ∧ SqL K H1 p ((sortI (repliesR L.rows n)).map V.int) ∧ ∃ (f : Addr) (v : Option V), σ' = [some (.ref L.p), some (.int n), some (.ref f), v] ∧ H' f = none ∧ H1 f = some (.lst ((((sortI (repliesR L.rows n)).take i).flatMap fun c => c :: sortI (beneathR L.rows c)).map V.int)))
        (fun p H1 s1 hp => ⟨(Same.new hq).trans s1, hp, q, none, rfl, hq, s1 _ _ upd_same⟩) (fun p i σ' H1 _ h => h.2.1) ?_ ?_
      · walk_at "rd"
        have W1 := W.same (Same.new (o := .lst []) hq)
        exact ⟨_, _, W1.top, fw_no _ _ _ (by decide) (by decide) (by decide), L, n, rfl, W1, by have := G.len; simp [Lay.wd, Lay.rows] at this; omega, fun p H1 hp s1 e => r p H1 s1 (SqL.of e)⟩
      · rintro p i c σ' H1 hc ⟨s1, hp, f, v, rfl, hf, hl⟩
        walk_at "rd"
        have hcm : c ∈ repliesR L.rows n := (sortI_perm _).mem_iff.mp (List.mem_of_getElem? hc)
        obtain ⟨rc, hrc, _⟩ := mem_replies.mp hcm
        have fc := findR_of F.nk hrc
        have abc := reply_above F hcm
        have lenc : (aboveR L.rows c).length = (aboveR L.rows n).length + 1 := by rw [abc]; rfl
        have l1 := below_len F n i
        have l2 := below_len F n (i + 1)
        have e2 : ((sortI (repliesR L.rows n)).take (i + 1)).flatMap (fun c => c :: sortI (beneathR L.rows c)) = ((sortI (repliesR L.rows n)).take i).flatMap (fun c => c :: sortI (beneathR L.rows c)) ++ [c] ++ sortI (beneathR L.rows c) := by
          rw [List.take_add_one, hc, List.flatMap_append]
          simp
        have ln := G.len
        have ln : L.rows.length ≤ 60 := ln
        have d8 : (aboveR L.rows c).length ≤ 8 := G.dp _ hrc
        refine ⟨by decide, fun a ha => ⟨f, a, _, _, rfl, rfl, (Same.new ha) _ _ hl, upd_same, ?_, fun b hb => ?_⟩⟩
        · rw [sizeLine_eq, List.length_map]
          show _ + 1 ≤ _
          omega
        · have s3 := (Same.new (o := .lst [V.int c]) ha).trans (Same.new (o := .lst ((((sortI (repliesR L.rows n)).take i).flatMap fun c => c :: sortI (beneathR L.rows c)).map V.int ++ [V.int c])) hb)
          have W3 := W.same (s1.trans s3)
          refine ⟨_, _, W3.top, fw_no _ _ _ (by decide) (by decide) (by decide), hsp L c _ _ _ W3 G ⟨rc, fc⟩ (by omega) d8 (by omega) (fun q H4 hq s4 e4 => ?_)⟩
          refine ⟨b, q, _, _, rfl, rfl, s4 _ _ upd_same, e4, ?_, fun r hr => ?_⟩
          · rw [e2] at l2
            simp only [List.length_append, List.length_map, List.length_singleton] at l2 ⊢
            rw [sizeLine_eq]
            omega
          · have s5 := (s3.trans s4).trans (Same.new (o := .lst ((((sortI (repliesR L.rows n)).take i).flatMap fun c => c :: sortI (beneathR L.rows c)).map V.int ++ [V.int c] ++ (sortI (beneathR L.rows c)).map V.int)) hr)
            refine ⟨s1.trans s5, s5.seq hp, r, rfl, s1.free ((s3.trans s4).free hr), ?_⟩
            rw [upd_same, e2]
            simp
      · rintro p σ' H1 ⟨s1, hp, f, v, rfl, hf, hl⟩
        walk_at "rd"
        rw [List.take_of_length_le (Nat.le_refl _)] at hl
        have ln := G.len
        have ln : L.rows.length ≤ 60 := ln
        have pm := below_perm F n
        have hlen := pm.length_eq
        have hle : (beneathR L.rows n).length ≤ L.rows.length := by
          unfold beneathR
          exact Nat.le_trans (List.length_filter_le _ _) (by rw [List.length_map]; omega)
        refine ⟨f, _, rfl, SqL.of hl, by omega, fun ns' q hpm hs hq => ?_⟩
        rw [sortI_eq (hpm.trans pm) hs]
        exact k2 q _ (s1.free hq) (s1.trans (Same.new hq)) upd_same
theorem D_Wood_below_at (T : Txt K mg base) : ∀ k : Nat, Def P w K mg base (k + 4) (He.ma K (He.ga K "Wood") "below") ["self", "number"] (spBelow K k)
  | 0 => below_body T 0 0 (fun _ _ _ _ => False) (fun T => (D_below_none T).mono (by omega)) fun L c H Q E W G hc h9 h8 hne _ => by omega
  | k + 1 => below_body T (k + 1) (k + 1) (spBelow K k) (fun T => D_Wood_below_at T k) fun L c H Q E W G hc h9 h8 hne q => by
    refine ⟨L, .int c, .int c, rfl, W, G, .int c, rfl, fun n e => ?_, fun h => ?_, fun n e _ p H' hp s1 hl => ?_⟩
    · cases e
      omega
    · obtain ⟨r, hr⟩ := hc
      have h1 := (G.wf.up hr).2.1
      have h2 := G.le _ (findR_mem hr)
      have h3 : (findR L.wd.rows c).isSome = true := by show (findR L.rows c).isSome = true; rw [hr]; rfl
      have h2' : c ≤ L.wd.came := h2
      have h1' : 1 ≤ c := by omega
      simp [underOk, h3, h1', h2'] at h
    · cases e
      exact q p H' hp s1 hl
theorem D_Wood_below (T : Txt K mg base) : Def P w K mg base 12 (He.ma K (He.ga K "Wood") "below") ["self", "number"] (spBelow K 8) := D_Wood_below_at T 8
def spMany (K : PySem.W.Frag) : Sp := fun vs H Q E => ∃ (L : Lay) (x : V) (d : PyData), vs = [.ref L.p, x] ∧ WoodAt K H L ∧ Good L.wd ∧ Dp K H x d ∧ SeqAt.shaped d = true ∧
  (underOk L.wd d = false → Bad K E .no H) ∧ (∀ n, d = .int n → underOk L.wd d = true → ∀ H', Same H H' → Q (.int (manyR L.rows n : Nat)) H')
abbrev N_Wood_many : List Str := ["self", "number", "one"]
theorem sc_Wood_many : FnScope N_Wood_many ["self", "number"] (defScope s_Wood_many) := ⟨rfl, rfl, rfl, by decide +kernel, rfl, by decide +kernel, by decide +kernel⟩
theorem be_Wood_many : BindEq "many" "Wood.many" s_Wood_many ["self", "number"] := fun _ _ _ _ _ _ us hl => match us, hl with | [_, _], _ => rfl
theorem D_Wood_many (T : Txt K mg base) : Def P w K mg base 13 (He.ma K (He.ga K "Wood") "many") ["self", "number"] (spMany K) := by
  refine mk_def T.f_Wood_many sc_Wood_many be_Wood_many (fun vs H Q E h => ?_) (fun cdv A outer s H vs Q E hr h => ?_)
  · obtain ⟨L, x, d, rfl, _⟩ := h
    rfl
  · obtain ⟨L, x, d, rfl, W, G, hx, hsh, k0, k1⟩ := h
    refine ⟨_, (pss_one (ps_ret (pe_callB call_len_seq (by rfl) T.b_len (by decide +kernel) (pa_cons (pe_lc (own := [("one", 2)]) (g := gName 2) rfl sc_Wood_many.nd (pi_list (pe_md (pv 0) T.c_Wood.c T.m_Wood_below (D_Wood_below T) (by exact hr.mono (by first | decide | omega)) passE (pa_cons (pv 1) pa_nil))) (blkOk_by (N := N_Wood_many) (sc := defScope s_Wood_many) (by decide +kernel)) (fun _ _ _ _ _ => by exact (pg_name (i := 2) sc_Wood_many.nd rfl (Or.inl rfl))) (fun _ _ _ _ _ => by exact (pts_one (pt_not (pt_val (pe_fldK K (pe_dg (pe_fldK K (pv 0)) (pv 2) (by exact hu_of hr))))))) (fun _ _ _ _ _ => by exact (pv 2))) pa_nil)))), ?_⟩
    walk_at "rd"
    cases hu : underOk L.wd d with
    | false =>
      refine ⟨_, rfl, L.p, _, _, rfl, W.top, fw_no _ _ _ (by decide) (by decide) (by decide), _, rfl, L, x, d, rfl, W, G, hx, hsh, fun n e => by omega, k0, fun n e h => ?_⟩
      rw [hu] at h
      cases h
    | true =>
      obtain ⟨n, rfl⟩ : ∃ n, d = .int n := by
        cases d with
        | int n => exact ⟨n, rfl⟩
        | _ => cases hu
      cases hx
      have ln : L.rows.length ≤ 60 := G.len
      have hle : (beneathR L.rows n).length ≤ L.rows.length := by
        unfold beneathR
        exact Nat.le_trans (List.length_filter_le _ _) (by rw [List.length_map]; omega)
      refine lcL (l := sortI (beneathR L.rows n)) V.int (fun m => if (((findR L.rows m).map fun r => !r.struck).getD false) = true then some (.int m) else none) (fun R r => ?_) (by rw [sortI_length, sizeLine_eq]; omega) (fun m H' hm s1 N1 N0 q1 q0 => ?_) (fun D H' hD s1 e => ?_)
      · walk_at "rd"
        refine ⟨_, _, W.top, fw_no _ _ _ (by decide) (by decide) (by decide), L, .int n, .int n, rfl, W, G, .int n, hsh, fun n e => by omega, k0, fun m e _ p H' hp s1 hl => ?_⟩
        cases e
        exact r p H' s1 (SqL.of hl)
      · have W1 := W.same s1
        obtain ⟨⟨r, hr⟩, _⟩ := mem_beneath.mp ((sortI_perm _).mem_iff.mp hm)
        obtain ⟨e, he, eq⟩ := List.mem_map.mp hr
        cases eq
        have fe := findE_of W.nk he
        have S := W1.say e he
        have eu : findR L.rows e.n = some e.row := by rw [L.find, fe]; rfl
        walk_at "rd"
        refine W1.fsay T (W1.at fe ⟨_, rfl, S.fstruck T ⟨_, rfl, ?_⟩⟩)
        cases c : e.row.struck with
        | false => exact iteT (q1 _ _ (Same.refl _) (if_pos (by rw [eu]; simp [c])))
        | true => exact iteF (q0 _ (Same.refl _) (if_neg (by rw [eu]; simp [c])))
      · refine ⟨_, rfl, _, .inl (SqL.of e), ?_⟩
        rw [filterMap_if, List.length_map]
        have : ((sortI (beneathR L.rows n)).filter fun p => decide ((((findR L.rows p).map fun r => !r.struck).getD false) = true)).length = manyR L.rows n := by
          unfold manyR
          refine ((sortI_perm _).filter _).length_eq.trans ?_
          simp
        rw [this]
        exact k1 n rfl hu H' s1
def spStanding (K : PySem.W.Frag) : Sp := fun vs H Q E => ∃ (L : Lay) (x : V) (d : PyData), vs = [.ref L.p, x] ∧ WoodAt K H L ∧ Dp K H x d ∧ Short d ∧
  (nameOk d = false → ∀ H', Same H H' → Bad K E .name H') ∧ (∀ z, d = .str z → nameOk d = true → ∀ H', Same H H' → Q (.int (standingM L.wd z)) H')
end
end Vw
namespace Vw
open PySem PySem.Spec PyProof.Rows L2
local macro_rules | `(tactic| walk_at "rd") => `(tactic| simp only [tSeq, tNext, tIfS, tAsg, tRet, tRetN, tDrop, tVar, tC, tOp, tUn, tTest, tB, tAnd, tOr, tNot, tAndV, tOrV, tNotV, tIf, tChain, tCB, tCons, tNil, tCall, tMeth, tMake, tFld, sFld, tTup, tLst, tTupS, tLstS, tDNewKS, tDNewTS, tTold, tCmp, t2I, tIsN, tNotN, tPar, gName, gNil, gCons, gTup, gSub, rI0, rU, rEq, rNe, tDGet, tDIn, tDNotIn, sDPut, tDNewK, tDGet1, tDGet2, tDPop1, tDPop2, tBM, tBM0, tM0, tM1, tSl, tPart, tNoPart, tBreak, tCont, tThru, L2.start, List.map_cons, List.map_nil, List.length_cons, List.length_nil, List.cons_append, List.nil_append, List.append_nil, List.replicate_succ, List.replicate_zero, Nat.reduceAdd, Nat.reduceSub, Nat.zero_add, List.getElem?_cons_zero, List.getElem?_cons_succ, List.set_cons_zero, List.set_cons_succ, wipe, cxOf_K, tYes, List.cons.injEq, and_self, Option.some.injEq, V.int.injEq, V.bl.injEq, V.ref.injEq, V.str.injEq, exists_eq_left', exists_eq_left, exists_and_left, and_assoc, true_and, and_true, if_true, if_false, ite_true, ite_false, Bool.not_true, Bool.not_false, Bool.false_eq_true, reduceIte])
/-! ### a wood that is changed: what it stands on, a step -/
def foot (L : Lay) : List Addr := L.p :: L.d :: (L.ents.map (·.a) ++ L.ents.map (·.v))
structure Step (H : Hp) (L : Lay) (H' : Hp) (L' : Lay) : Prop where
  p : L'.p = L.p
  keep : ∀ b o, b ∉ foot L → H b = some o → H' b = some o
  new : ∀ b ∈ foot L', b ∈ foot L ∨ H b = none
theorem Step.same {H H' : Hp} {L : Lay} (s : Same H H') : Step H L H' L := ⟨rfl, fun b o _ e => s b o e, fun b hb => .inl hb⟩
theorem Step.trans {H H1 H2 : Hp} {L L1 L2 : Lay} (a : Step H L H1 L1) (b : Step H1 L1 H2 L2) : Step H L H2 L2 := by
  refine ⟨b.p.trans a.p, fun c o hc e => b.keep c o (fun h => ?_) (a.keep c o hc e), fun c hc => ?_⟩
  · rcases a.new c h with z | z
    · exact hc z
    · rw [z] at e
      cases e
  · rcases b.new c hc with z | z
    · exact a.new c z
    · by_cases h : c ∈ foot L
      · exact .inl h
      · right
        cases q : H c with
        | none => rfl
        | some o =>
          rw [a.keep c o h q] at z
          cases z
theorem inj_nodup {α β : Type} {f : α → β} : ∀ {l : List α}, (l.map f).Nodup → ∀ {a b : α}, a ∈ l → b ∈ l → f a = f b → a = b
  | [], _, _, _, h, _, _ => by cases h
  | c :: r, h, a, b, ha, hb, e => by
    simp only [List.map_cons, List.nodup_cons] at h
    rcases List.mem_cons.mp ha with h1 | h1
    · rcases List.mem_cons.mp hb with h2 | h2
      · rw [h1, h2]
      · exact absurd (List.mem_map.mpr ⟨b, h2, by rw [← e, h1]⟩) h.1
    · rcases List.mem_cons.mp hb with h2 | h2
      · exact absurd (List.mem_map.mpr ⟨a, h1, by rw [e, h2]⟩) h.1
      · exact inj_nodup h.2 h1 h2 e
def setE (es : List Ent) (n : Int) (r : Row) : List Ent := es.map fun e => if e.n = n then { e with row := r } else e
theorem setE_map {β : Type} (f : Ent → β) (hf : ∀ e r, f { e with row := r } = f e) (es : List Ent) (n : Int) (r : Row) : (setE es n r).map f = es.map f := by
  unfold setE
  rw [List.map_map]
  apply List.map_congr_left
  intro e _
  show f (if e.n = n then _ else _) = f e
  split
  · exact hf e r
  · rfl
theorem setE_rows (es : List Ent) (n : Int) (r : Row) : (setE es n r).map (fun e => (e.n, e.row)) = setR (es.map fun e => (e.n, e.row)) n r := by
  unfold setE setR
  rw [List.map_map, List.map_map]
  apply List.map_congr_left
  intro e _
  show ((if e.n = n then { e with row := r } else e).n, (if e.n = n then { e with row := r } else e).row) = if e.n = n then (n, r) else (e.n, e.row)
  by_cases h : e.n = n <;> simp [h]
theorem mem_setE {es : List Ent} {n : Int} {r : Row} {e : Ent} (h : e ∈ setE es n r) : ∃ e0 ∈ es, e.a = e0.a ∧ e.x = e0.x ∧ e.v = e0.v ∧ e.n = e0.n ∧ ((e0.n = n ∧ e.row = r) ∨ (e0.n ≠ n ∧ e = e0)) := by
  obtain ⟨e0, h0, rfl⟩ := List.mem_map.mp h
  refine ⟨e0, h0, ?_⟩
  by_cases c : e0.n = n
  · simp [c]
  · simp [c]
/-- the row of one entry is another one: its object, its votes may be written -/
theorem WoodAt.set {K : PySem.W.Frag} {H H' : Hp} {L : Lay} (W : WoodAt K H L) {e : Ent} (he : e ∈ L.ents) {r : Row} (S : SayAt K H' e.a e.x e.v r) (k : ∀ b o, b ≠ e.a → b ≠ e.v → H b = some o → H' b = some o) : WoodAt K H' { L with ents := setE L.ents e.n r } := by
  have Se := W.say e he
  have n1 : L.p ≠ e.v := ne_of W.top Se.d (by intro q; cases q)
  have n2 : L.d ≠ e.a := ne_of W.dic Se.o (by intro q; cases q)
  refine ⟨k _ _ (W.pa e he).symm n1 W.top, ?_, fun e' h' => ?_, ?_, ?_, ?_, fun e' h' => ?_, fun e' h' => ?_, ?_⟩
  · show H' L.d = some (.dK ((setE L.ents e.n r).map entK))
    rw [setE_map entK (fun _ _ => rfl)]
    exact k _ _ n2 (W.dv e he).symm W.dic
  · obtain ⟨e0, h0, ha, hx, hv, hn, h⟩ := mem_setE h'
    rcases h with ⟨hn0, hr⟩ | ⟨hn0, rfl⟩
    · have : e0 = e := inj_nodup W.nk h0 he hn0
      subst this
      rw [ha, hx, hv, hr]
      exact S
    · have S0 := W.say e' h0
      have na : e'.a ≠ e.a := fun z => hn0 (congrArg Ent.n (inj_nodup W.nda h0 he z))
      have nv : e'.v ≠ e.v := fun z => hn0 (congrArg Ent.n (inj_nodup W.ndv h0 he z))
      exact ⟨k _ _ na (ne_of S0.o Se.d (by intro q; cases q)) S0.o, k _ _ (ne_of S0.d Se.o (by intro q; cases q)) nv S0.d, S0.nd, S0.sz⟩
  · show ((setE L.ents e.n r).map (·.n)).Nodup
    rw [setE_map _ (fun _ _ => rfl)]
    exact W.nk
  · show ((setE L.ents e.n r).map (·.a)).Nodup
    rw [setE_map _ (fun _ _ => rfl)]
    exact W.nda
  · show ((setE L.ents e.n r).map (·.v)).Nodup
    rw [setE_map _ (fun _ _ => rfl)]
    exact W.ndv
  · obtain ⟨e0, h0, ha, hx, hv, hn, _⟩ := mem_setE h'
    rw [hv]
    exact W.dv e0 h0
  · obtain ⟨e0, h0, ha, hx, hv, hn, _⟩ := mem_setE h'
    rw [ha]
    exact W.pa e0 h0
  · show (setE L.ents e.n r).length < 100000
    unfold setE
    rw [List.length_map]
    exact W.sz
theorem foot_set (L : Lay) (n : Int) (r : Row) : foot { L with ents := setE L.ents n r } = foot L := by
  unfold foot
  show L.p :: L.d :: ((setE L.ents n r).map (·.a) ++ (setE L.ents n r).map (·.v)) = _
  rw [setE_map _ (fun _ _ => rfl), setE_map _ (fun _ _ => rfl)]
theorem mem_foot_a {L : Lay} {e : Ent} (he : e ∈ L.ents) : e.a ∈ foot L := List.mem_cons_of_mem _ (List.mem_cons_of_mem _ (List.mem_append_left _ (List.mem_map.mpr ⟨e, he, rfl⟩)))
theorem mem_foot_v {L : Lay} {e : Ent} (he : e ∈ L.ents) : e.v ∈ foot L := List.mem_cons_of_mem _ (List.mem_cons_of_mem _ (List.mem_append_right _ (List.mem_map.mpr ⟨e, he, rfl⟩)))
theorem Step.set {H H' : Hp} {L : Lay} {e : Ent} (he : e ∈ L.ents) {r : Row} (k : ∀ b o, b ≠ e.a → b ≠ e.v → H b = some o → H' b = some o) : Step H L H' { L with ents := setE L.ents e.n r } :=
  ⟨rfl, fun b o hb q => k b o (fun z => hb (z ▸ mem_foot_a he)) (fun z => hb (z ▸ mem_foot_v he)) q, fun b hb => .inl (by rw [foot_set] at hb; exact hb)⟩
/-- one entry goes -/
theorem WoodAt.pop {K : PySem.W.Frag} {H : Hp} {L : Lay} (W : WoodAt K H L) (n : Int) : WoodAt K (upd H L.d (.dK (dropK (L.ents.map entK) (Sum.inl n)))) { L with ents := L.ents.filter fun e => decide (e.n ≠ n) } := by
  have sub : (L.ents.filter fun e => decide (e.n ≠ n)).Sublist L.ents := List.filter_sublist
  have npd : L.p ≠ L.d := ne_of W.top W.dic (by intro q; cases q)
  refine ⟨by show upd H L.d _ L.p = _; rw [upd_ne npd]; exact W.top, ?_, fun e he => ?_, W.nk.sublist (sub.map _), W.nda.sublist (sub.map _), W.ndv.sublist (sub.map _), fun e he => W.dv e (sub.mem he), fun e he => W.pa e (sub.mem he), Nat.lt_of_le_of_lt sub.length_le W.sz⟩
  · show upd H L.d _ L.d = some (.dK ((L.ents.filter fun e => decide (e.n ≠ n)).map entK))
    rw [upd_same]
    unfold dropK
    rw [List.filter_map]
    congr 3
    apply List.filter_congr
    intro e _
    show decide ((Sum.inl e.n : Key) ≠ Sum.inl n) = decide (e.n ≠ n)
    simp
  · have S := W.say e (sub.mem he)
    exact ⟨by rw [upd_ne (ne_of S.o W.dic (by intro q; cases q))]; exact S.o, by rw [upd_ne (W.dv e (sub.mem he))]; exact S.d, S.nd, S.sz⟩
theorem Step.pop {H : Hp} {L : Lay} (n : Int) (o : HO) : Step H L (upd H L.d o) { L with ents := L.ents.filter fun e => decide (e.n ≠ n) } := by
  refine ⟨rfl, fun b u hb e => ?_, fun b hb => .inl ?_⟩
  · rw [upd_ne (fun z => hb (by rw [z]; exact List.mem_cons_of_mem _ List.mem_cons_self))]
    exact e
  · have sub : (L.ents.filter fun e => decide (e.n ≠ n)).Sublist L.ents := List.filter_sublist
    have hb : b ∈ L.p :: L.d :: ((L.ents.filter fun e => decide (e.n ≠ n)).map (·.a) ++ (L.ents.filter fun e => decide (e.n ≠ n)).map (·.v)) := hb
    exact (List.Sublist.cons₂ _ (List.Sublist.cons₂ _ ((sub.map _).append (sub.map _)))).mem hb
theorem pop_rows (L : Lay) (n : Int) : ({ L with ents := L.ents.filter fun e => decide (e.n ≠ n) } : Lay).rows = dropR L.rows n := by
  unfold Lay.rows dropR
  rw [List.filter_map]
  rfl
theorem dropK_votes (vs : List (Str × Int)) (who : Str) : dropK (votesK vs) (Sum.inr who) = votesK (vs.filter fun p => decide (p.1 ≠ who)) := by
  unfold dropK votesK
  rw [List.filter_map]
  congr 1
  apply List.filter_congr
  intro p _
  show decide ((Sum.inr p.1 : Key) ≠ Sum.inr who) = decide (p.1 ≠ who)
  simp
theorem votes_none {vs : List (Str × Int)} {who : Str} (h : valV (votesK vs) (Sum.inr who) = none) : ∀ p ∈ vs, p.1 ≠ who := fun p hp e => by
  have q := valV_not h
  apply q
  unfold votesK
  rw [List.map_map]
  exact List.mem_map.mpr ⟨p, hp, by rw [← e]; rfl⟩
/-- votes.pop(who, None) -/
theorem pop_any {H : Hp} {v : Addr} {vs : List (Str × Int)} {who : Str} {G : Hp → Prop} (h : H v = some (.dK (votesK vs)))
    (g : ∀ H2, H2 v = some (.dK (votesK (vs.filter fun p => decide (p.1 ≠ who)))) → (∀ b o, b ≠ v → H b = some o → H2 b = some o) → G H2) :
    ∃ a, V.ref v = V.ref a ∧ IsD H a ∧ ∃ kvs, H a = some (.dK kvs) ∧ ∃ k, V.str who = kV k ∧ (∀ u, valV kvs k = some u → G (upd H a (.dK (dropK kvs k)))) ∧ (valV kvs k = none → G H) := by
  refine ⟨v, rfl, .inl ⟨_, .inl h⟩, _, h, Sum.inr who, rfl, fun u _ => g _ ?_ fun b o hb e => by rw [upd_ne hb]; exact e, fun hn => g H ?_ fun _ _ _ e => e⟩
  · rw [upd_same, dropK_votes]
  · have z := votes_none hn
    have : vs.filter (fun p => decide (p.1 ≠ who)) = vs := List.filter_eq_self.mpr fun p hp => by simpa using z p hp
    rw [this]
    exact h
section
variable {P : Program} {w : World} {K : PySem.W.Frag} {mg : Str → Option Value} {base : Heap}
/-- what a deed that changes the wood leaves -/
def Told (K : PySem.W.Frag) (H : Hp) (L : Lay) (Q : VK) (E : XK) (v : V) (r : Except Er Wd) : Prop :=
  (∀ M, r = .ok M → ∀ H' L', WoodAt K H' L' → L'.wd = M → Step H L H' L' → Q v H') ∧ (∀ e, r = .error e → ∀ H', Same H H' → Bad K E e H')
def spChange (K : PySem.W.Frag) : Sp := fun vs H Q E => ∃ (L : Lay) (x y z : V) (d b t : PyData), vs = [.ref L.p, x, y, z] ∧ WoodAt K H L ∧ Dp K H x d ∧ Dp K H y b ∧ Dp K H z t ∧ Short b ∧ Short t ∧ Told K H L Q E .non (changeM L.wd d b t)
def spVote (K : PySem.W.Frag) : Sp := fun vs H Q E => ∃ (L : Lay) (x y z : V) (d b t : PyData), vs = [.ref L.p, x, y, z] ∧ WoodAt K H L ∧ Dp K H x d ∧ Dp K H y b ∧ Dp K H z t ∧ Short b ∧ (∀ e ∈ L.ents, e.row.votes.length < 99999) ∧
  (∀ p M, voteM L.wd d b t = .ok (p, M) → ∀ H' L', WoodAt K H' L' → L'.wd = M → Step H L H' L' → Q (.int p) H') ∧ (∀ e, voteM L.wd d b t = .error e → ∀ H', Same H H' → Bad K E e H')
/-! ### Wood.strike -/
def spStrike (K : PySem.W.Frag) : Sp := fun vs H Q E => ∃ (L : Lay) (x y : V) (d b : PyData), vs = [.ref L.p, x, y] ∧ WoodAt K H L ∧ Wf L.rows ∧ L.ents.length < 64 ∧ Dp K H x d ∧ Dp K H y b ∧ Short b ∧
  (∀ m M, strikeM L.wd d b = .ok (m, M) → ∀ H' L', WoodAt K H' L' → L'.wd = M → Step H L H' L' → Q (.int m) H') ∧ (∀ e, strikeM L.wd d b = .error e → ∀ H', Same H H' → Bad K E e H')
theorem ownM_int {M : Wd} {d b : PyData} {n : Int} {r : Row} (h : ownM M d b = .ok (n, r)) : d = .int n ∧ findR M.rows n = some r := by
  unfold ownM at h
  cases q : sayingM M d with
  | none => rw [q] at h; cases h
  | some p =>
    obtain ⟨m, r'⟩ := p
    rw [q] at h
    have h : (if nameOk b = false then .error .name else if isS b r'.who = true ∧ r'.struck = false then .ok (m, r') else .error .yours) = (.ok (n, r) : Except Er (Int × Row)) := h
    have e : (m, r') = (n, r) := by
      split at h
      · cases h
      · split at h
        · exact Except.ok.inj h
        · cases h
    cases e
    unfold sayingM at q
    cases d with
    | int k =>
      have q : (if 1 ≤ k ∧ k ≤ M.came then (findR M.rows k).map fun r => (k, r) else none) = some (n, r) := q
      split at q
      · cases f : findR M.rows k with
        | none => rw [f] at q; cases q
        | some z =>
          rw [f] at q
          cases q
          exact ⟨rfl, f⟩
      · cases q
    | _ => cases q
end
end Vw
namespace Vw
open PySem PySem.Spec PyProof.Rows L2
local macro_rules | `(tactic| walk_at "rd") => `(tactic| simp only [tSeq, tNext, tIfS, tAsg, tRet, tRetN, tDrop, tVar, tC, tOp, tUn, tTest, tB, tAnd, tOr, tNot, tAndV, tOrV, tNotV, tIf, tChain, tCB, tCons, tNil, tCall, tMeth, tMake, tFld, sFld, tTup, tLst, tTupS, tLstS, tDNewKS, tDNewTS, tTold, tCmp, t2I, tIsN, tNotN, tPar, gName, gNil, gCons, gTup, gSub, rI0, rU, rEq, rNe, tDGet, tDIn, tDNotIn, sDPut, tDNewK, tDGet1, tDGet2, tDPop1, tDPop2, tBM, tBM0, tM0, tM1, tSl, tPart, tNoPart, tBreak, tCont, tThru, L2.start, List.map_cons, List.map_nil, List.length_cons, List.length_nil, List.cons_append, List.nil_append, List.append_nil, List.replicate_succ, List.replicate_zero, Nat.reduceAdd, Nat.reduceSub, Nat.zero_add, List.getElem?_cons_zero, List.getElem?_cons_succ, List.set_cons_zero, List.set_cons_succ, wipe, cxOf_K, tYes, List.cons.injEq, and_self, Option.some.injEq, V.int.injEq, V.bl.injEq, V.ref.injEq, V.str.injEq, exists_eq_left', exists_eq_left, exists_and_left, and_assoc, true_and, and_true, if_true, if_false, ite_true, ite_false, Bool.not_true, Bool.not_false, Bool.false_eq_true, reduceIte])
theorem WoodAt.put {K : PySem.W.Frag} {H H' : Hp} {L : Lay} (W : WoodAt K H L) {n : Int} {a x v : Addr} {r : Row} (S : SayAt K H' a x v r) (ha : H a = none) (hv : H v = none) (hn : ∀ e ∈ L.ents, e.n ≠ n) (kp : ∀ b o, b ≠ L.d → H b = some o → H' b = some o)
    (hd : H' L.d = some (.dK (L.ents.map entK ++ [entK ⟨n, r, a, x, v⟩]))) (sz : L.ents.length + 1 < 100000) : WoodAt K H' { L with ents := L.ents ++ [⟨n, r, a, x, v⟩] } := by
  have npd : L.p ≠ L.d := ne_of W.top W.dic (by intro q; cases q)
  refine ⟨kp _ _ npd W.top, ?_, fun e he => ?_, ?_, ?_, ?_, fun e he => ?_, fun e he => ?_, ?_⟩
  · show H' L.d = some (.dK ((L.ents ++ [_]).map entK))
    rw [List.map_append]
    exact hd
  · rcases List.mem_append.mp he with he | he
    · have S0 := W.say e he
      exact ⟨kp _ _ (ne_of S0.o W.dic (by intro q; cases q)) S0.o, kp _ _ (W.dv e he) S0.d, S0.nd, S0.sz⟩
    · cases List.mem_singleton.mp he
      exact S
  · show ((L.ents ++ [(⟨n, r, a, x, v⟩ : Ent)]).map (·.n)).Nodup
    rw [List.map_append]
    refine nd_snoc W.nk fun m => ?_
    obtain ⟨e, he, q⟩ := List.mem_map.mp m
    exact hn e he q
  · show ((L.ents ++ [(⟨n, r, a, x, v⟩ : Ent)]).map (·.a)).Nodup
    rw [List.map_append]
    refine nd_snoc W.nda fun m => ?_
    obtain ⟨e, he, q⟩ := List.mem_map.mp m
    exact ne_of_none (W.say e he).o ha q
  · show ((L.ents ++ [(⟨n, r, a, x, v⟩ : Ent)]).map (·.v)).Nodup
    rw [List.map_append]
    refine nd_snoc W.ndv fun m => ?_
    obtain ⟨e, he, q⟩ := List.mem_map.mp m
    exact ne_of_none (W.say e he).d hv q
  · rcases List.mem_append.mp he with he | he
    · exact W.dv e he
    · cases List.mem_singleton.mp he
      exact (ne_of_none W.dic hv).symm
  · rcases List.mem_append.mp he with he | he
    · exact W.pa e he
    · cases List.mem_singleton.mp he
      exact (ne_of_none W.top ha).symm
  · show (L.ents ++ [_]).length < 100000
    rw [List.length_append]
    exact sz
theorem Step.put {H H' : Hp} {L : Lay} {n : Int} {a x v : Addr} {r : Row} (ha : H a = none) (hv : H v = none) (kp : ∀ b o, b ≠ L.d → H b = some o → H' b = some o) : Step H L H' { L with ents := L.ents ++ [⟨n, r, a, x, v⟩] } := by
  refine ⟨rfl, fun b o hb e => kp b o (fun z => hb (by rw [z]; exact List.mem_cons_of_mem _ List.mem_cons_self)) e, fun b hb => ?_⟩
  have hb : b ∈ L.p :: L.d :: ((L.ents ++ [(⟨n, r, a, x, v⟩ : Ent)]).map (·.a) ++ (L.ents ++ [(⟨n, r, a, x, v⟩ : Ent)]).map (·.v)) := hb
  simp only [List.mem_cons, List.mem_append, List.map_append, List.map_cons, List.map_nil, List.not_mem_nil, or_false] at hb
  rcases hb with rfl | rfl | (h | rfl) | (h | rfl)
  · exact .inl List.mem_cons_self
  · exact .inl (List.mem_cons_of_mem _ List.mem_cons_self)
  · exact .inl (List.mem_cons_of_mem _ (List.mem_cons_of_mem _ (List.mem_append_left _ h)))
  · exact .inr ha
  · exact .inl (List.mem_cons_of_mem _ (List.mem_cons_of_mem _ (List.mem_append_right _ h)))
  · exact .inr hv
theorem Step.top {H : Hp} {L : Lay} {c k : Int} {o : HO} : Step H L (upd H L.p o) { L with came := c, clock := k } :=
  ⟨rfl, fun b u hb e => by rw [upd_ne (fun z => hb (by rw [z]; exact List.mem_cons_self))]; exact e, fun b hb => .inl hb⟩
section
variable {P : Program} {w : World} {K : PySem.W.Frag} {mg : Str → Option Value} {base : Heap}
def spSay (K : PySem.W.Frag) : Sp := fun vs H Q E => ∃ (L : Lay) (x y z : V) (b u t : PyData), vs = [.ref L.p, x, y, z] ∧ WoodAt K H L ∧ Wf L.rows ∧ (∀ p ∈ L.rows, p.1 ≤ L.came) ∧ Dp K H x b ∧ Dp K H y u ∧ Dp K H z t ∧ Short b ∧ SeqAt.shaped u = true ∧ Short t ∧
  (∀ n M, sayM L.wd b u t = .ok (n, M) → ∀ H' L', WoodAt K H' L' → L'.wd = M → Step H L H' L' → Q (.int n) H') ∧ (∀ e, sayM L.wd b u t = .error e → ∀ H', Same H H' → Bad K E e H')
end
end Vw
namespace Vw
open PySem PySem.Spec PyProof.Rows L2
local macro_rules | `(tactic| walk_at "rd") => `(tactic| simp only [tSeq, tNext, tIfS, tAsg, tRet, tRetN, tDrop, tVar, tC, tOp, tUn, tTest, tB, tAnd, tOr, tNot, tAndV, tOrV, tNotV, tIf, tChain, tCB, tCons, tNil, tCall, tMeth, tMake, tFld, sFld, tTup, tLst, tTupS, tLstS, tDNewKS, tDNewTS, tTold, tCmp, t2I, tIsN, tNotN, tPar, gName, gNil, gCons, gTup, gSub, rI0, rU, rEq, rNe, tDGet, tDIn, tDNotIn, sDPut, tDNewK, tDGet1, tDGet2, tDPop1, tDPop2, tBM, tBM0, tM0, tM1, tSl, tPart, tNoPart, tBreak, tCont, tThru, L2.start, List.map_cons, List.map_nil, List.length_cons, List.length_nil, List.cons_append, List.nil_append, List.append_nil, List.replicate_succ, List.replicate_zero, Nat.reduceAdd, Nat.reduceSub, Nat.zero_add, List.getElem?_cons_zero, List.getElem?_cons_succ, List.set_cons_zero, List.set_cons_succ, wipe, cxOf_K, tYes, List.cons.injEq, and_self, Option.some.injEq, V.int.injEq, V.bl.injEq, V.ref.injEq, V.str.injEq, exists_eq_left', exists_eq_left, exists_and_left, and_assoc, true_and, and_true, if_true, if_false, ite_true, ite_false, Bool.not_true, Bool.not_false, Bool.false_eq_true, reduceIte])
/-! ### what the laws share: cells, draws -/
section
variable {P : Program} {w : World} {K : PySem.W.Frag} {mg : Str → Option Value} {base : Heap}
abbrev N__law_cell : List Str := ["script", "k"]
theorem sc__law_cell : FnScope N__law_cell ["script", "k"] (defScope s__law_cell) := ⟨rfl, rfl, rfl, by decide +kernel, rfl, by decide +kernel, by decide +kernel⟩
theorem be__law_cell : BindEq "_law_cell" "_law_cell" s__law_cell ["script", "k"] := fun _ _ _ _ _ _ us hl => match us, hl with | [_, _], _ => rfl
theorem D__law_cell (T : Txt K mg base) : Def P w K mg base 1 (He.ga K "_law_cell") ["script", "k"] (spCell K) := by
  refine mk_def T.f__law_cell sc__law_cell be__law_cell (fun vs H Q E h => ?_) (fun cdv A outer s H vs Q E hr h => ?_)
  · obtain ⟨p, sc, k, rfl, _⟩ := h
    rfl
  · obtain ⟨p, sc, k, rfl, hp, hl, h0, h1, q⟩ := h
    refine ⟨_, (pss_cons (ps_if (pt_eqd (pv 0) (pe_lstS pa_nil) (by exact hr.units)) (pss_one (ps_ret (pe_op op_mulX (pv 1) pe_int))) pss_nil)
      (pss_one (ps_ret (pe_op op_add (pe_ix ix_list (pv 0) (pe_op op_mod (pv 1) (pe_callB call_len_seq (by rfl) T.b_len (by decide +kernel) (pa_cons (pv 0) pa_nil))) (fun _ _ => rfl)) (pe_op op_mulX (pe_op op_fdivW (pv 1) (pe_callB call_len_seq (by rfl) T.b_len (by decide +kernel) (pa_cons (pv 0) pa_nil))) pe_int))))), ?_⟩
    walk_at "rd"
    refine ⟨Nat.zero_le _, fun l H1 hl0 s1 e0 => ?_⟩
    have e1 : SqL K H1 p (sc.map V.int) := s1.seq hp
    refine use_eqD (.lst e1 (dps_ints sc)) (dp_ints (ns := []) e0) (shaped_ints _) (shaped_ints []) ⟨_, rfl, ?_⟩
    rw [eqv_ints]
    have kb : k.natAbs < 2 ^ 10 := by omega
    by_cases hs : sc = []
    · rw [decide_eq_true hs]
      refine iteT (useI (mulx (b := 13) kb (by decide) (by omega)) ?_)
      have e : cellM sc k = k * 7919 := by rw [cellM, if_pos hs]
      rw [← e]
      exact q _ s1
    · rw [decide_eq_false hs]
      have ln : 0 < sc.length := List.length_pos_iff.mpr hs
      have lm : (sc.map V.int).length = sc.length := List.length_map _
      refine iteF ⟨_, .inl e1, useI (by rw [lm]; omega) ⟨p, _, _, V.int ((sc[(k % sc.length).toNat]?).getD 0), rfl, rfl, e1, ?_, ⟨_, .inl e1, useI ?_ (useI ?_ ⟨_, rfl, _, rfl, ?_⟩)⟩⟩⟩
      · have m0 : 0 ≤ k % (sc.length : Int) := Int.emod_nonneg _ (by omega)
        have m1 : k % (sc.length : Int) < sc.length := Int.emod_lt_of_pos _ (by omega)
        have hj : (k % sc.length).toNat < sc.length := by omega
        rw [lm]
        rw [atI_nn m0 (by rw [lm]; exact m1), List.getElem?_map, List.getElem?_eq_getElem hj]
        rfl
      · rw [lm]
        exact wide_div (b := 10) (by omega) (by omega) (by decide) (by decide)
      · rw [lm]
        refine mulx (a := 11) (b := 20) ?_ (by decide) (by omega)
        have d0 : 0 ≤ k / (sc.length : Int) := Int.ediv_nonneg h0 (by omega)
        have d1 : k / (sc.length : Int) ≤ k := Int.ediv_le_self _ h0
        omega
      · rw [lm]
        have e : cellM sc k = (sc[(k % sc.length).toNat]?).getD 0 + k / sc.length * 104729 := by rw [cellM, if_neg hs]
        rw [← e]
        exact q _ s1
abbrev N__law_drawn : List Str := ["cell", "k", "more"]
theorem sc__law_drawn : FnScope N__law_drawn ["cell", "k"] (defScope s__law_drawn) := ⟨rfl, rfl, rfl, by decide +kernel, rfl, by decide +kernel, by decide +kernel⟩
theorem be__law_drawn : BindEq "_law_drawn" "_law_drawn" s__law_drawn ["cell", "k"] := fun _ _ _ _ _ _ us hl => match us, hl with | [_, _], _ => rfl
theorem D__law_drawn (T : Txt K mg base) : Def P w K mg base 1 (He.ga K "_law_drawn") ["cell", "k"] spDraw := by
  refine mk_def T.f__law_drawn sc__law_drawn be__law_drawn (fun vs H Q E h => ?_) (fun cdv A outer s H vs Q E hr h => ?_)
  · obtain ⟨c, k, rfl, _⟩ := h
    rfl
  · obtain ⟨c, k, rfl, hc, hk, q⟩ := h
    refine ⟨_, (pss_cons (ps_set (i := 2) sc__law_drawn.nd rfl (Or.inl rfl) (pe_op op_mod (pe_op op_add (pe_op op_mulX (pv 0) pe_int) (pe_op op_mulX (pe_op op_add (pv 1) pe_int) pe_int)) pe_int))
      (pss_cons (ps_set (i := 2) sc__law_drawn.nd rfl (Or.inl rfl) (pe_op op_mod (pe_op op_mulX (pv 2) (pv 2)) pe_int))
      (pss_cons (ps_set (i := 2) sc__law_drawn.nd rfl (Or.inl rfl) (pe_op op_mulX (pe_op op_mulX (pe_op op_add (pe_op op_mod (pv 2) pe_int) pe_int) (pe_op op_add (pe_op op_fdivW (pv 2) pe_int) pe_int)) (pv 2)))
      (pss_one (ps_ret (pe_op op_mod (pv 2) pe_int)))))), ?_⟩
    walk_at "rd"
    have k1 : (k + 1).natAbs < 2 ^ 201 := by
      have : (2 : Nat) ^ 201 = 2 ^ 200 + 2 ^ 200 := by decide
      have : 1 ≤ (2 : Nat) ^ 200 := by decide
      omega
    refine useI (mulx (b := 64) hc (by decide) (by unfold bigB; omega)) (useI (mulx (b := 64) k1 (by decide) (by omega)) ⟨_, rfl, _, rfl, useI (by decide) ?_⟩)
    generalize ha : (c * 6364136223846793005 + (k + 1) * 1442695040888963407) % 340282366920938463463374607431768211507 = a
    have a0 : 0 ≤ a := by
      rw [← ha]
      exact Int.emod_nonneg _ (by decide)
    have a1 : a < 2 ^ 129 := by
      have := Int.emod_lt_of_pos (c * 6364136223846793005 + (k + 1) * 1442695040888963407) (b := 340282366920938463463374607431768211507) (by decide)
      rw [ha] at this
      exact Int.lt_trans this (by decide)
    refine useI (mulx (abs_lt a0 a1) (abs_lt a0 a1) (by omega)) (useI (by decide) ?_)
    generalize hb : a * a % 340282366920938463463374607431768211297 = b
    have b0 : 0 ≤ b := by
      rw [← hb]
      exact Int.emod_nonneg _ (by decide)
    have b1 : b < 2 ^ 129 := by
      have := Int.emod_lt_of_pos (a * a) (b := 340282366920938463463374607431768211297) (by decide)
      rw [hb] at this
      exact Int.lt_trans this (by decide)
    refine useI (by decide) ⟨_, rfl, useI (wide_div (b := 100) (by decide) (by decide) (by decide) (by decide)) ⟨_, rfl, ?_⟩⟩
    have c1 : (b % 18446744073709551557 + 1).natAbs < 2 ^ 65 := by omega
    have c2 : (b / 18446744073709551557 + 1).natAbs < 2 ^ 130 := by omega
    refine useI (mulx c1 c2 (by omega)) (useI (mulx (wide_lt c1 c2) (abs_lt b0 b1) (by omega)) (useI (by decide) ?_))
    have e : drawM c k = (b % 18446744073709551557 + 1) * (b / 18446744073709551557 + 1) * b % 340282366920938463463374607431768211507 := by
      unfold drawM
      dsimp only
      rw [ha, hb]
    rw [← e]
    exact q
end
end Vw
namespace Vw
open PySem PySem.Spec PyProof.Rows L2
local macro_rules | `(tactic| walk_at "rd") => `(tactic| simp only [tSeq, tNext, tIfS, tAsg, tRet, tRetN, tDrop, tVar, tC, tOp, tUn, tTest, tB, tAnd, tOr, tNot, tAndV, tOrV, tNotV, tIf, tChain, tCB, tCons, tNil, tCall, tMeth, tMake, tFld, sFld, tTup, tLst, tTupS, tLstS, tDNewKS, tDNewTS, tTold, tCmp, t2I, tIsN, tNotN, tPar, gName, gNil, gCons, gTup, gSub, rI0, rU, rEq, rNe, tDGet, tDIn, tDNotIn, sDPut, tDNewK, tDGet1, tDGet2, tDPop1, tDPop2, tBM, tBM0, tM0, tM1, tSl, tPart, tNoPart, tBreak, tCont, tThru, L2.start, List.map_cons, List.map_nil, List.length_cons, List.length_nil, List.cons_append, List.nil_append, List.append_nil, List.replicate_succ, List.replicate_zero, Nat.reduceAdd, Nat.reduceSub, Nat.zero_add, List.getElem?_cons_zero, List.getElem?_cons_succ, List.set_cons_zero, List.set_cons_succ, wipe, cxOf_K, tYes, List.cons.injEq, and_self, Option.some.injEq, V.int.injEq, V.bl.injEq, V.ref.injEq, V.str.injEq, exists_eq_left', exists_eq_left, exists_and_left, and_assoc, true_and, and_true, if_true, if_false, ite_true, ite_false, Bool.not_true, Bool.not_false, Bool.false_eq_true, reduceIte])
abbrev ws : List Str := ["BadDeed", "BadName", "BadNumber", "BadText", "Full", "NoSaying", "NotKin", "NotYours", "Nothing"]
theorem ws_sum : ∀ c ∈ errs, ((ws.map fun x => decide (c = x)).map n01).sum = 1 := by decide +kernel
theorem ws_at : ∀ c ∈ errs, ws[ws.idxOf c]? = some c ∧ (ws.map fun x => decide (c = x))[ws.idxOf c]? = some true ∧ ∀ m < ws.idxOf c, (ws.map fun x => decide (c = x))[m]? = some false := by decide +kernel
section
variable {P : Program} {w : World} {K : PySem.W.Frag} {mg : Str → Option Value} {base : Heap}
abbrev N__law_word : List Str := ["e", "flags", "some", "flag"]
theorem sc__law_word : FnScope N__law_word ["e"] (defScope s__law_word) := ⟨rfl, rfl, rfl, by decide +kernel, rfl, by decide +kernel, by decide +kernel⟩
theorem be__law_word : BindEq "_law_word" "_law_word" s__law_word ["e"] := fun _ _ _ _ _ _ us hl => match us, hl with | [_], _ => rfl
theorem H__law_word (T : Txt K mg base) : HotFn P w K mg base 2 (He.ga K "_law_word") (spWord K errs) := by
  intro A outer s H Q p hr hot pin e0 h
  obtain ⟨c, hc0, h1, h2, hf, q⟩ := h
  obtain ⟨fd, F⟩ := T.f__law_word
  have C0 := (T.wd c hc0).e
  refine hot_run (N := N__law_word) (k := 1) F sc__law_word be__law_word hr pin e0 (.cons (a := V.ref p.1) rfl .nil) rfl (fun cdv hr => ?_)
  have hp : p ∈ (L2H.cxH (L2N.CX P w) P w K mg base N__law_word "_law_word" (defScope s__law_word) (He.ga K "_law_word") cdv A outer s H E0 p).pn := List.mem_cons_self
  have hc : L2H.HotC (L2H.cxH (L2N.CX P w) P w K mg base N__law_word "_law_word" (defScope s__law_word) (He.ga K "_law_word") cdv A outer s H E0 p) := ⟨p, hot, hp⟩
  refine ⟨_, (pss_cons (ps_set (i := 1) sc__law_word.nd rfl (Or.inl rfl) (pe_lstS (pa_cons (pe_callB (cr_isP C0 hp h1 h2 hf) (by rfl) T.b_isinstance (by decide +kernel) (pa_cons (pv 0) (pa_cons (pe_glob (v := .ref _) rfl T.x_BadDeed.g rfl) pa_nil))) (pa_cons (pe_callB (cr_isP C0 hp h1 h2 hf) (by rfl) T.b_isinstance (by decide +kernel) (pa_cons (pv 0) (pa_cons (pe_glob (v := .ref _) rfl T.x_BadName.g rfl) pa_nil))) (pa_cons (pe_callB (cr_isP C0 hp h1 h2 hf) (by rfl) T.b_isinstance (by decide +kernel) (pa_cons (pv 0) (pa_cons (pe_glob (v := .ref _) rfl T.x_BadNumber.g rfl) pa_nil))) (pa_cons (pe_callB (cr_isP C0 hp h1 h2 hf) (by rfl) T.b_isinstance (by decide +kernel) (pa_cons (pv 0) (pa_cons (pe_glob (v := .ref _) rfl T.x_BadText.g rfl) pa_nil))) pa_nil))))))
      (pss_cons (ps_set (i := 1) sc__law_word.nd rfl (Or.inl rfl) (pe_op op_catN (pv 1) (pe_lstS (pa_cons (pe_callB (cr_isP C0 hp h1 h2 hf) (by rfl) T.b_isinstance (by decide +kernel) (pa_cons (pv 0) (pa_cons (pe_glob (v := .ref _) rfl T.x_Full.g rfl) pa_nil))) (pa_cons (pe_callB (cr_isP C0 hp h1 h2 hf) (by rfl) T.b_isinstance (by decide +kernel) (pa_cons (pv 0) (pa_cons (pe_glob (v := .ref _) rfl T.x_NoSaying.g rfl) pa_nil))) (pa_cons (pe_callB (cr_isP C0 hp h1 h2 hf) (by rfl) T.b_isinstance (by decide +kernel) (pa_cons (pv 0) (pa_cons (pe_glob (v := .ref _) rfl T.x_NotKin.g rfl) pa_nil))) (pa_cons (pe_callB (cr_isP C0 hp h1 h2 hf) (by rfl) T.b_isinstance (by decide +kernel) (pa_cons (pv 0) (pa_cons (pe_glob (v := .ref _) rfl T.x_NotYours.g rfl) pa_nil))) pa_nil)))))))
      (pss_cons (ps_expr (pe_bm PySem.F.plainAttrs_list PySem.F.slot_list_append PySem.F.type_list_append mt_append (pv 1) (pa_cons (pe_callB (cr_isP C0 hp h1 h2 hf) (by rfl) T.b_isinstance (by decide +kernel) (pa_cons (pv 0) (pa_cons (pe_glob (v := .ref _) rfl T.x_Nothing.g rfl) pa_nil))) pa_nil)))
      (pss_cons (ps_if (PW.pt (pw_or (pt_cmpR op_ne (pe_sumflags hc (pv 1) T.b_sum T.b_int (by rfl) (by decide +kernel) (by decide +kernel) rfl (by decide +kernel) rfl (by rfl)) pe_int (nomark _)) (pw_or1 (pt_not (pt_val (pe_callB (cr_isP C0 hp h1 h2 hf) (by rfl) T.b_isinstance (by decide +kernel) (pa_cons (pv 0) (pa_cons (pe_bltn (v := .ty "ValueError") (by rfl) T.b_ValueError (by decide +kernel) rfl) pa_nil)))))))) (pss_one (ps_ret (pe_tupS (pa_cons pe_str (pa_cons pe_str pa_nil))))) pss_nil)
      (pss_cons (ps_set (i := 2) sc__law_word.nd rfl (Or.inl rfl) (pe_lstS (pa_cons pe_str (pa_cons pe_str (pa_cons pe_str (pa_cons pe_str (pa_cons pe_str (pa_cons pe_str (pa_cons pe_str (pa_cons pe_str (pa_cons pe_str pa_nil)))))))))))
      (pss_one (ps_ret (pe_tupS (pa_cons pe_str (pa_cons (pe_ix ix_list (pv 2) (pe_bm PySem.F.plainAttrs_list PySem.F.slot_list_index PySem.F.type_list_index mt_index (pv 1) (pa_cons pe_bl pa_nil)) (fun _ _ => rfl)) pa_nil)))))))))), ?_⟩
  walk_at "rd"
  simp only [cxH_K, tSumF, tVar]
  have z1 : (16 : Nat) ≤ sizeLine := by rw [sizeLine_eq]; omega
  have is {H1 : Hp} {a : Addr} {Q1 : VK} (x : Str) (hx : x ∈ errs) (q : Q1 (.bl (decide (c = x))) H1) : rIsE K (He.ga K c) a [.ref a, .ref (He.ga K x)] H1 Q1 := use_isP ((T.wd c hc0).d x hx) q
  refine is _ (by decide +kernel) (is _ (by decide +kernel) (is _ (by decide +kernel) (is _ (by decide +kernel) ⟨by omega, fun l1 H1 n1 s1 e1 => ?_⟩)))
  refine is _ (by decide +kernel) (is _ (by decide +kernel) (is _ (by decide +kernel) (is _ (by decide +kernel) ⟨by omega, fun l2 H2 n2 s2 e2 => ?_⟩)))
  refine ⟨l1, l2, _, _, rfl, rfl, s2 _ _ e1, e2, by simp; omega, fun l3 H3 n3 s3 e3 => ?_⟩
  refine ⟨.inl ⟨rfl, _, SqL.of e3⟩, is _ (by decide +kernel) ?_⟩
  refine ⟨l3, _, _, rfl, rfl, e3, by simp; omega, _, rfl, l3, ws.map fun x => decide (c = x), rfl, SqL.of upd_same, ?_⟩
  have s4 := s3.over (o := .lst ((ws.map fun x => decide (c = x)).map V.bl)) n3
  have e4 : upd H3 l3 (.lst ((ws.map fun x => decide (c = x)).map V.bl)) l3 = _ := upd_same
  change scal _ _ = true ∧ (if (!decide (V.int _ = V.int 1)) = true then _ else rIsE _ _ _ _ (upd H3 l3 (.lst ((ws.map fun x => decide (c = x)).map V.bl))) _)
  generalize upd H3 l3 (.lst ((ws.map fun x => decide (c = x)).map V.bl)) = H4 at s4 e4 ⊢
  rw [ws_sum c hc0]
  refine ⟨rfl, iteF (use_isV (T.wd c hc0).v ⟨_, rfl, iteF ⟨by omega, fun l5 H5 n5 s5 e5 => ?_⟩⟩)⟩
  obtain ⟨a1, a2, a3⟩ := ws_at c hc0
  have e6 := s5 _ _ e4
  refine ⟨.inl ⟨rfl, _, SqL.of e6⟩, l3, _, _, ws.idxOf c, V.bl true, rfl, rfl, SqL.of e6, rfl, by rw [List.all_map]; exact List.all_eq_true.mpr fun _ _ => rfl, by rw [List.getElem?_map, a2]; rfl, rfl, fun m z hm hz => ?_, l5, _, _, .str c, rfl, rfl, SqL.of e5, ?_, by omega, fun r H6 n6 s6 e7 => q r H6 ?_ ?_ e7⟩
  · rw [List.getElem?_map, a3 m hm] at hz
    cases hz
    rfl
  · obtain ⟨lt, _⟩ := List.getElem?_eq_some_iff.mp a1
    have lt9 : ws.idxOf c < 9 := lt
    rw [atI_nn (by omega) (by show ((ws.idxOf c : Nat) : Int) < 9; omega), Int.toNat_natCast]
    have e : ([V.str "BadDeed", V.str "BadName", V.str "BadNumber", V.str "BadText", V.str "Full", V.str "NoSaying", V.str "NotKin", V.str "NotYours", V.str "Nothing"] : List V) = ws.map V.str := rfl
    rw [e, List.getElem?_map, a1]
    rfl
  · exact s1.free (s2.free (s4.free (s5.free n6)))
  · exact ((s1.trans s2).trans s4).trans (s5.trans s6)
end
end Vw
namespace Vw
open PySem PySem.Spec PyProof.Rows L2
local macro_rules | `(tactic| walk_at "rd") => `(tactic| simp only [tSeq, tNext, tIfS, tAsg, tRet, tRetN, tDrop, tVar, tC, tOp, tUn, tTest, tB, tAnd, tOr, tNot, tAndV, tOrV, tNotV, tIf, tChain, tCB, tCons, tNil, tCall, tMeth, tMake, tFld, sFld, tTup, tLst, tTupS, tLstS, tDNewKS, tDNewTS, tTold, tCmp, t2I, tIsN, tNotN, tPar, gName, gNil, gCons, gTup, gSub, rI0, rU, rEq, rNe, tDGet, tDIn, tDNotIn, sDPut, tDNewK, tDGet1, tDGet2, tDPop1, tDPop2, tBM, tBM0, tM0, tM1, tSl, tPart, tNoPart, tBreak, tCont, tThru, L2.start, List.map_cons, List.map_nil, List.length_cons, List.length_nil, List.cons_append, List.nil_append, List.append_nil, List.replicate_succ, List.replicate_zero, Nat.reduceAdd, Nat.reduceSub, Nat.zero_add, List.getElem?_cons_zero, List.getElem?_cons_succ, List.set_cons_zero, List.set_cons_succ, wipe, cxOf_K, tYes, List.cons.injEq, and_self, Option.some.injEq, V.int.injEq, V.bl.injEq, V.ref.injEq, V.str.injEq, exists_eq_left', exists_eq_left, exists_and_left, and_assoc, true_and, and_true, if_true, if_false, ite_true, ite_false, Bool.not_true, Bool.not_false, Bool.false_eq_true, reduceIte])
section
variable {P : Program} {w : World} {K : PySem.W.Frag} {mg : Str → Option Value} {base : Heap}
abbrev N__law_told : List Str := ["deed", "e"]
theorem sc__law_told : FnScope N__law_told ["deed"] (defScope s__law_told) := ⟨rfl, rfl, rfl, by decide +kernel, rfl, by decide +kernel, by decide +kernel⟩
theorem be__law_told : BindEq "_law_told" "_law_told" s__law_told ["deed"] := fun _ _ _ _ _ _ us hl => match us, hl with | [_], _ => rfl
theorem tabs_one {P : Addr} {p : Addr × Str} {q : Str} (hp : p ∈ [(P, q)]) : p.2 = q := by
  have e : p = (P, q) := by simpa using hp
  rw [e]
/-- told(lambda: body) in the def x -/
theorem pe_tld {N : List Str} {x : Str} {sc : Scope} {f : Addr} {cdv : Value} {A : Around} {outer : List Env} {s : Shared} {H : Hp} {E : XK} {k : Nat} {params : Arguments} {body : Expr} {scope : Scope} {t : XK → TE} {q0 lpos pos : Pos} (T : Txt K mg base)
    (hcd : cdv = .ref (He.cT K (x, none)).1) (TB : LamX.TabB base mg (He.cT K (x, none)).1 (He.cT K (x, none)).2) (hr : Room (k + 4) (cxN P w K mg base N x sc f cdv A outer s H E).A)
    (L : LamX.LamS sc scope) (hdef : defaultsOf params (cxN P w K mg base N x sc f cdv A outer s H E).env = ([], []))
    (hbind : ∀ (q : Str) (cl : List (Str × Addr)) (pm cv ctv : Value), bindArgs (PySem.W.kla_fn "<lambda>" q params body scope cl pm cv ctv) ⟨[], []⟩ = pure [])
    (hbody : ∀ (A2 : Around) (outer2 : List Env) (s2 : Shared) (H2 : Hp) (E2 : XK) (f2 c2 : Addr), Room (k + 2) (A2.deeper (LamX.lamEnv (cxN P w K mg base N x sc f cdv A outer s H E) scope s2.heap.objs.size f2 c2)) → PE (lamN (cxN P w K mg base N x sc f cdv A outer s H E) A2 outer2 s2 H2 E2 scope f2 c2) body (t E2))
    (hmT : ((He.cT K (x, none)).2, lamQ (cxN P w K mg base N x sc f cdv A outer s H E)) ∈ tabs K := by first | exact List.mem_cons_self | exact List.mem_cons_of_mem _ List.mem_cons_self | exact List.mem_cons_of_mem _ (List.mem_cons_of_mem _ List.mem_cons_self) | exact List.mem_cons_of_mem _ (List.mem_cons_of_mem _ (List.mem_cons_of_mem _ List.mem_cons_self)) | exact List.mem_cons_of_mem _ (List.mem_cons_of_mem _ (List.mem_cons_of_mem _ (List.mem_cons_of_mem _ List.mem_cons_self))))
    (hg : Gl (cxN P w K mg base N x sc f cdv A outer s H E) "_law_told" := by rfl) :
    PE (cxN P w K mg base N x sc f cdv A outer s H E) (.Call (.Name "_law_told" q0) [.Lambda params body scope lpos] [] pos) (tTold K errs (tabs K) t) := by
  obtain ⟨fd, F⟩ := T.f__law_told
  have hu : ∀ p ∈ tabs K, p.1 = (He.cT K (x, none)).2 → p.2 = lamQ (cxN P w K mg base N x sc f cdv A outer s H E) := fun p hp e => congrArg Prod.snd (inj_nodup T.tn hp hmT e)
  obtain ⟨fdw, Fw⟩ := T.f__law_word
  exact pe_told (X := cxN P w K mg base N x sc f cdv A outer s H E) (T := tabs K) (cs := errs) (a := "deed") (n := "e") (wd := "_law_word") (we := "WoodError") (st := s__law_told) (fw := He.ga K "_law_word") (Ng := N__law_told) F sc__law_told be__law_told rfl T.g__law_told T.x_WoodError.g T.g__law_word Fw.kp (H__law_word T) (fun x hx => (T.wd x hx).m)
    rfl (Or.inl rfl) rfl rfl rfl rfl (fun f => rfl) TB hcd hmT hu hr L hdef hbind hbody hg
end
end Vw
namespace Vw
open PySem PySem.Spec PyProof.Rows L2
/-! ### what stays of the law's own objects -/
def IsP (o : HO) : Prop := (∃ C x f, o = .ins C x f) ∨ ∃ k, o = .dK k
/-- all but instances and their dicts stay -/
def K2 (H H' : Hp) : Prop := ∀ b o, H b = some o → ¬ IsP o → H' b = some o
def LK (H H' : Hp) : Prop := ∀ b o, H b = some o → ¬ IsP o → (∀ t, o ≠ .tbl t) → H' b = some o
theorem K2.lk {H H' : Hp} (k : K2 H H') : LK H H' := fun b o h n _ => k b o h n
theorem K2.same {H H' : Hp} (s : Same H H') : K2 H H' := fun b o h _ => s b o h
theorem LK.same {H H' : Hp} (s : Same H H') : LK H H' := fun b o h _ _ => s b o h
theorem LK.trans {H H1 H2 : Hp} (a : LK H H1) (b : LK H1 H2) : LK H H2 := fun c o h n m => b c o (a c o h n m) n m
theorem LK.ext {H H' : Hp} (e : LamX.ExtN H H') : LK H H' := fun b o h _ n => e b o h n
theorem not_lst (xs : List V) : ¬ IsP (.lst xs) := fun z => by rcases z with ⟨_, _, _, z⟩ | ⟨_, z⟩ <;> cases z
theorem not_tup (xs : List V) : ¬ IsP (.tup xs) := fun z => by rcases z with ⟨_, _, _, z⟩ | ⟨_, z⟩ <;> cases z
theorem not_dT (xs : List (List Key × V)) : ¬ IsP (.dT xs) := fun z => by rcases z with ⟨_, _, _, z⟩ | ⟨_, z⟩ <;> cases z
theorem not_tbl (t : Array Value) : ¬ IsP (.tbl t) := fun z => by rcases z with ⟨_, _, _, z⟩ | ⟨_, z⟩ <;> cases z
theorem not_frz (o : Obj) (u : HO) : ¬ IsP (.frz o u) := fun z => by rcases z with ⟨_, _, _, z⟩ | ⟨_, z⟩ <;> cases z
theorem not_code (c : Addr) (q : Str) : ¬ IsP (LamX.CodeO c q) := fun z => by unfold LamX.CodeO at z; rcases z with ⟨_, _, _, z⟩ | ⟨_, z⟩ <;> cases z
theorem LK.lst {H H' : Hp} {a : Addr} {xs : List V} (k : LK H H') (h : H a = some (.lst xs)) : H' a = some (.lst xs) := k _ _ h (not_lst _) (by intro t z; cases z)
theorem LK.tup {H H' : Hp} {a : Addr} {xs : List V} (k : LK H H') (h : H a = some (.tup xs)) : H' a = some (.tup xs) := k _ _ h (not_tup _) (by intro t z; cases z)
theorem LK.dT {H H' : Hp} {a : Addr} {xs : List (List Key × V)} (k : LK H H') (h : H a = some (.dT xs)) : H' a = some (.dT xs) := k _ _ h (not_dT _) (by intro t z; cases z)
theorem LK.seq {K : PySem.W.Frag} {H H' : Hp} {a : Addr} {xs : List V} (k : LK H H') (h : SqL K H a xs) : SqL K H' a xs := by
  rcases h with (h | ⟨o, h⟩) | h
  · exact .inl (.inl (k.lst h))
  · exact .inl (.inr ⟨o, k _ _ h (not_frz _ _) (by intro t z; cases z)⟩)
  · exact .inr h
theorem K2.tabs {T : List (Addr × Str)} {H H' : Hp} (k : K2 H H') (t : LamX.Tabs T H) : LamX.Tabs T H' := fun p hp => by
  obtain ⟨ps, h1, h2, h3⟩ := t p hp
  refine ⟨ps, k _ _ h1 (not_tbl _), h2, fun pos cv hc => ?_⟩
  obtain ⟨c, e1, e2⟩ := h3 pos cv hc
  exact ⟨c, e1, k _ _ e2 (not_code _ _)⟩
theorem upd_tabs {T : List (Addr × Str)} {H : Hp} {d : Addr} {o u : HO} (t : LamX.Tabs T H) (hd : H d = some u) (n1 : ∀ ps, u ≠ .tbl ps) (n2 : ∀ c q, u ≠ LamX.CodeO c q) : LamX.Tabs T (upd H d o) := fun p hp => by
  obtain ⟨ps, h1, h2, h3⟩ := t p hp
  refine ⟨ps, by rw [upd_ne (fun z => n1 ps (by rw [← z, h1] at hd; exact (Option.some.inj hd).symm))]; exact h1, h2, fun pos cv hc => ?_⟩
  obtain ⟨c, e1, e2⟩ := h3 pos cv hc
  exact ⟨c, e1, by rw [upd_ne (fun z => n2 c p.2 (by rw [← z, e2] at hd; exact (Option.some.inj hd).symm))]; exact e2⟩
theorem upd_tabsT {T : List (Addr × Str)} {H : Hp} {d : Addr} {o : HO} {k : List (List Key × V)} (t : LamX.Tabs T H) (hd : H d = some (.dT k)) : LamX.Tabs T (upd H d o) := upd_tabs t hd (by intro ps z; cases z) (by intro c q z; unfold LamX.CodeO at z; cases z)
theorem WoodAt.wk {K : PySem.W.Frag} {H H' : Hp} {L : Lay} (W : WoodAt K H L) (s : ∀ b o, H b = some o → IsP o → H' b = some o) : WoodAt K H' L :=
  ⟨s _ _ W.top (.inl ⟨_, _, _, rfl⟩), s _ _ W.dic (.inr ⟨_, rfl⟩), fun e he => ⟨s _ _ (W.say e he).o (.inl ⟨_, _, _, rfl⟩), s _ _ (W.say e he).d (.inr ⟨_, rfl⟩), (W.say e he).nd, (W.say e he).sz⟩, W.nk, W.nda, W.ndv, W.dv, W.pa, W.sz⟩
theorem WoodAt.ext {K : PySem.W.Frag} {H H' : Hp} {L : Lay} (W : WoodAt K H L) (e : LamX.ExtN H H') : WoodAt K H' L := W.wk fun b o h p => e b o h fun ps z => by
  rw [z] at p
  exact not_tbl _ p
theorem WoodAt.updT {K : PySem.W.Frag} {H : Hp} {L : Lay} {d : Addr} {o : HO} {k : List (List Key × V)} (W : WoodAt K H L) (hd : H d = some (.dT k)) : WoodAt K (upd H d o) L := W.wk fun b u h p => by
  rw [upd_ne (fun z => by rw [z, hd] at h; cases h; exact not_dT _ p)]
  exact h
theorem foot_obj {K : PySem.W.Frag} {H : Hp} {L : Lay} (W : WoodAt K H L) {b : Addr} {o : HO} (hb : b ∈ foot L) (h : H b = some o) : IsP o := by
  have q : b = L.p ∨ b = L.d ∨ b ∈ L.ents.map (·.a) ∨ b ∈ L.ents.map (·.v) := by
    unfold foot at hb
    simpa only [List.mem_cons, List.mem_append] using hb
  rcases q with rfl | rfl | q | q
  · rw [W.top] at h
    cases h
    exact .inl ⟨_, _, _, rfl⟩
  · rw [W.dic] at h
    cases h
    exact .inr ⟨_, rfl⟩
  · obtain ⟨e, he, rfl⟩ := List.mem_map.mp q
    rw [(W.say e he).o] at h
    cases h
    exact .inl ⟨_, _, _, rfl⟩
  · obtain ⟨e, he, rfl⟩ := List.mem_map.mp q
    rw [(W.say e he).d] at h
    cases h
    exact .inr ⟨_, rfl⟩
theorem Step.k2 {K : PySem.W.Frag} {H H' : Hp} {L L' : Lay} (S : Step H L H' L') (W : WoodAt K H L) : K2 H H' := fun b o h n => S.keep b o (fun hb => n (foot_obj W hb h)) h
/-- for over range(n): what comes behind the body is told by its three wishes -/
theorem forR2 {n : Int} {ta : TA} {g : TG} {tb : TS} {D : Ends} {σ : L2.St} {H : Hp} (src : ∀ R : List V → Hp → Prop, R [.int n] H → ta σ H R) (hn : n < 100000) (Pv : Nat → L2.St → Hp → Prop) (h0 : Pv 0 σ H)
    (hs : ∀ (i : Nat) σ' H' (D' : Ends), (i : Int) < n → Pv i σ' H' → (∀ σ2 H2, Pv (i + 1) σ2 H2 → D'.nx σ2 H2) → (∀ σ2 H2, Pv (i + 1) σ2 H2 → D'.ct σ2 H2) → D'.rt = D.rt → D'.bk = D.nx → g (.int i) σ' H' fun σ2 H2 => tb D' σ2 H2)
    (hd : ∀ σ' H', Pv n.toNat σ' H' → D.nx σ' H') (hl : -100000 < n := by omega) : tFor (iRng1 ta) g tb D σ H :=
  forR src hn Pv h0 (fun i σ' H' hi p => hs i σ' H' _ hi p (fun _ _ h => h) (fun _ _ h => h) rfl rfl) hd hl
theorem forL2 {α : Type} {K : PySem.W.Frag} {te0 : TE} {g : TG} {tb : TS} {D : Ends} {σ : L2.St} {H : Hp} {l : List α} (it : α → V) (src : ∀ R : VK, (∀ p H1, Same H H1 → SqL K H1 p (l.map it) → R (.ref p) H1) → te0 σ H R)
    (Pv : Addr → Nat → L2.St → Hp → Prop) (h0 : ∀ p H1, Same H H1 → SqL K H1 p (l.map it) → Pv p 0 σ H1) (hG : ∀ p i σ' H', i ≤ l.length → Pv p i σ' H' → SqL K H' p (l.map it))
    (hs : ∀ p i a σ' H' (D' : Ends), l[i]? = some a → Pv p i σ' H' → (∀ σ2 H2, Pv p (i + 1) σ2 H2 → D'.nx σ2 H2) → (∀ σ2 H2, Pv p (i + 1) σ2 H2 → D'.ct σ2 H2) → D'.rt = D.rt → D'.bk = D.nx → g (it a) σ' H' fun σ2 H2 => tb D' σ2 H2)
    (hd : ∀ p σ' H', Pv p l.length σ' H' → D.nx σ' H') : tFor (iList K te0) g tb D σ H :=
  forL it src Pv h0 hG (fun p i a σ' H' hi q => hs p i a σ' H' _ hi q (fun _ _ h => h) (fun _ _ h => h) rfl rfl) hd
/-- over the keys of a dict whose keys are tuples, under its lock -/
theorem lcT {te0 : TE} {g : TG} {tt : TT} {te : TE} {vs : List Nat} {σ : L2.St} {H : Hp} {Q : VK} {α : Type} {l : List α} {d : Addr} (kv : α → List Key × V) (f : α → Option V) (hk : H d = some (.dT (l.map kv))) (src : ∀ (H' : Hp) (R : VK), R (.ref d) H' → te0 σ H' R) (hn : l.length < sizeLine)
    (hs : ∀ a H' od q, a ∈ l → H' d = some (.frz od (.dT (l.map kv))) → H' q = some (.tup ((kv a).1.map kV)) → Turn1 f g tt te vs σ H' a (.ref q))
    (hd : ∀ D H', H D = none → Same H H' → H' D = some (.lst (l.filterMap f)) → Q (.ref D) H') : tLockE (tLc (iKeys te0) g tt te vs) σ H Q := by
  refine ⟨d, _, hk, trivial, fun od => src _ _ ⟨d, od, rfl, .inr ⟨_, upd_same, fun D hD => ?_⟩⟩⟩
  have nD : D ≠ d := fun z => by
    rw [z, upd_same] at hD
    cases hD
  have w : Walk (Itkt d od (l.map kv)) l.length (fun H => H d = some (.frz od (.dT (l.map kv)))) (fun i H x H' => H' = H ∧ ∃ (k : List Key) (v : V) (q : Addr), (l.map kv)[i]? = some (k, v) ∧ x = .ref q ∧ H q = some (.tup (k.map kV))) := by
    have w := walk_keysT (d := d) (o := od) (kvs := l.map kv)
    rw [List.length_map] at w
    exact w
  refine lc_ro l w f hn hD (fun H' s => s _ _ upd_same) (fun i a x H2 H3 ha s2 y => ?_) (fun H' s2 e => ⟨s2 _ _ upd_same, hd D _ (by rw [upd_ne nD] at hD; exact hD) (Same.lock hk s2) (by rw [upd_ne nD]; exact e)⟩)
  obtain ⟨rfl, k, v, q, hx, rfl, hq⟩ := y
  have e : (k, v) = kv a := by
    rw [List.getElem?_map, ha] at hx
    exact (Option.some.inj hx).symm
  have e1 : k = (kv a).1 := congrArg Prod.fst e
  rw [e1] at hq
  exact hs a _ od q (List.mem_of_getElem? ha) (s2 _ _ upd_same) hq
section
variable {K : PySem.W.Frag} {H : Hp} {L : Lay} {Q : VK} {E : XK} {m : Int} {r : Row}
theorem says_row (hm : sayingM L.wd (.int m) = some (m, r)) {e : Ent} (he : sayingD L (.int m) = some e) : e.row = r := by
  rw [sayingME, he] at hm
  exact congrArg Prod.snd (Option.some.inj hm)
theorem says_some (hm : sayingM L.wd (.int m) = some (m, r)) : sayingD L (.int m) ≠ none := fun z => by
  rw [sayingME, z] at hm
  cases hm
theorem use_look (W : WoodAt K H L) (hm : sayingM L.wd (.int m) = some (m, r)) (q : New (.tup [.str r.who, .int r.under, if r.struck then .non else .str r.text, .int r.time]) H Q) : spLook K [.ref L.p, .int m] H Q E :=
  ⟨L, .int m, .int m, rfl, W, .int m, fun e he p H' n s h => q p H' n s (by rw [← says_row hm he]; exact h), fun z => absurd z (says_some hm)⟩
theorem use_votesOf (W : WoodAt K H L) (hm : sayingM L.wd (.int m) = some (m, r)) (q : New (.tup [.int r.ups, .int r.downs]) H Q) : spVotesOf K [.ref L.p, .int m] H Q E :=
  ⟨L, .int m, .int m, rfl, W, .int m, fun e he p H' n s h => q p H' n s (by rw [← says_row hm he]; exact h), fun z => absurd z (says_some hm)⟩
theorem short_name {z : Str} (h : nameZ z = true) : Short (.str z) := by
  unfold nameZ at h
  simp only [Bool.and_eq_true, decide_eq_true_eq] at h
  show z.length < sizeLine
  rw [sizeLine_eq]
  omega
theorem use_standing {z : Str} (W : WoodAt K H L) (hz : nameZ z = true) (q : ∀ H', Same H H' → Q (.int (standingM L.wd z)) H') : spStanding K [.ref L.p, .str z] H Q E :=
  ⟨L, .str z, .str z, rfl, W, .str z, short_name hz, (fun h => absurd (show nameZ z = false from h) (by rw [hz]; decide)), (fun z' h _ H' s => by
    cases h
    exact q H' s)⟩
theorem dp_refu {x : Str} {p : Addr} (h : H p = some (.tup [.str "refused", .str x])) : Dp K H (.ref p) (.tuple [.str "refused", .str x]) := .tup (.inl (.inl h)) (.cons (.str _) (.cons (.str _) .nil))
theorem dp_int2 {x y : Int} {p : Addr} (h : H p = some (.tup [.int x, .int y])) : Dp K H (.ref p) (.tuple [.int x, .int y]) := .tup (.inl (.inl h)) (.cons (.int _) (.cons (.int _) .nil))
end
theorem refu_lk {H H' : Hp} (s : Same H H') : LK H H' := LK.same s
end Vw
namespace Vw
open PySem PySem.Spec PyProof.Rows L2
local macro_rules | `(tactic| walk_at "rd") => `(tactic| simp only [tSeq, tNext, tIfS, tAsg, tRet, tRetN, tDrop, tVar, tC, tOp, tUn, tTest, tB, tAnd, tOr, tNot, tAndV, tOrV, tNotV, tIf, tChain, tCB, tCons, tNil, tCall, tMeth, tMake, tFld, sFld, tTup, tLst, tTupS, tLstS, tDNewKS, tDNewTS, tTold, tCmp, t2I, tIsN, tNotN, tPar, gName, gNil, gCons, gTup, gSub, rI0, rU, rEq, rNe, tDGet, tDIn, tDNotIn, sDPut, tDNewK, tDGet1, tDGet2, tDPop1, tDPop2, tBM, tBM0, tM0, tM1, tSl, tPart, tNoPart, tBreak, tCont, tThru, L2.start, List.map_cons, List.map_nil, List.length_cons, List.length_nil, List.cons_append, List.nil_append, List.append_nil, List.replicate_succ, List.replicate_zero, Nat.reduceAdd, Nat.reduceSub, Nat.zero_add, List.getElem?_cons_zero, List.getElem?_cons_succ, List.set_cons_zero, List.set_cons_succ, wipe, cxOf_K, tYes, List.cons.injEq, and_self, Option.some.injEq, V.int.injEq, V.bl.injEq, V.ref.injEq, V.str.injEq, exists_eq_left', exists_eq_left, exists_and_left, and_assoc, true_and, and_true, if_true, if_false, ite_true, ite_false, Bool.not_true, Bool.not_false, Bool.false_eq_true, reduceIte])
/-! ### a wood of the law's own: dicts -/
structure OEnt where
  n : Int
  row : Row
  a : Addr
  v : Addr
structure OLay where
  p : Addr
  d : Addr
  ents : List OEnt
  came : Int
  clock : Int
def tellV (r : Row) : V := if r.struck = true then .non else .str r.text
def rowK (r : Row) (v : Addr) : List (Key × V) := [(Sum.inr "by", .str r.who), (Sum.inr "under", .int r.under), (Sum.inr "text", tellV r), (Sum.inr "time", .int r.time), (Sum.inr "votes", .ref v)]
def ownK (d : Addr) (c k : Int) : List (Key × V) := [(Sum.inr "rows", .ref d), (Sum.inr "came", .int c), (Sum.inr "clock", .int k)]
def oK (e : OEnt) : Key × V := (Sum.inl e.n, .ref e.a)
/-- as it is read: the dict of rows may be locked -/
structure OwnRd (H : Hp) (O : OLay) : Prop where
  top : H O.p = some (.dK (ownK O.d O.came O.clock))
  dic : Rd H O.d (.dK (O.ents.map oK))
  row : ∀ e ∈ O.ents, H e.a = some (.dK (rowK e.row e.v))
  vot : ∀ e ∈ O.ents, H e.v = some (.dK (votesK e.row.votes))
  nk : (O.ents.map (·.n)).Nodup
  ndv : ∀ e ∈ O.ents, (e.row.votes.map (·.1)).Nodup
  sz : O.ents.length < 64
  vsz : ∀ e ∈ O.ents, e.row.votes.length < 99999
def footO (O : OLay) : List Addr := O.p :: O.d :: (O.ents.map (·.a) ++ O.ents.map (·.v))
structure OwnAt (H : Hp) (O : OLay) : Prop where
  rd : OwnRd H O
  dic : H O.d = some (.dK (O.ents.map oK))
  nd : (footO O).Nodup
theorem mem_foO_a {O : OLay} {e : OEnt} (he : e ∈ O.ents) : e.a ∈ O.ents.map (·.a) ++ O.ents.map (·.v) := List.mem_append_left _ (List.mem_map.mpr ⟨e, he, rfl⟩)
theorem mem_foO_v {O : OLay} {e : OEnt} (he : e ∈ O.ents) : e.v ∈ O.ents.map (·.a) ++ O.ents.map (·.v) := List.mem_append_right _ (List.mem_map.mpr ⟨e, he, rfl⟩)
theorem OwnAt.pd {H : Hp} {O : OLay} (W : OwnAt H O) : O.p ≠ O.d := fun z => by
  have := (List.nodup_cons.mp W.nd).1
  exact this (by rw [z]; exact List.mem_cons_self)
theorem OwnAt.da {H : Hp} {O : OLay} (W : OwnAt H O) : ∀ e ∈ O.ents, e.a ≠ O.d ∧ e.v ≠ O.d ∧ e.a ≠ O.p ∧ e.v ≠ O.p := fun e he => by
  have h1 := (List.nodup_cons.mp W.nd).1
  have h2 := (List.nodup_cons.mp (List.nodup_cons.mp W.nd).2).1
  exact ⟨fun z => h2 (z ▸ mem_foO_a he), fun z => h2 (z ▸ mem_foO_v he), fun z => h1 (z ▸ List.mem_cons_of_mem _ (mem_foO_a he)), fun z => h1 (z ▸ List.mem_cons_of_mem _ (mem_foO_v he))⟩
theorem OwnAt.both {H : Hp} {O : OLay} (W : OwnAt H O) : (O.ents.map (·.a) ++ O.ents.map (·.v)).Nodup := (List.nodup_cons.mp (List.nodup_cons.mp W.nd).2).2
theorem OwnAt.nda {H : Hp} {O : OLay} (W : OwnAt H O) : (O.ents.map (·.a)).Nodup := (List.nodup_append.mp W.both).1
theorem OwnAt.ndv {H : Hp} {O : OLay} (W : OwnAt H O) : (O.ents.map (·.v)).Nodup := (List.nodup_append.mp W.both).2.1
theorem OwnAt.av {H : Hp} {O : OLay} (W : OwnAt H O) : ∀ e ∈ O.ents, ∀ e' ∈ O.ents, e.a ≠ e'.v := fun e he e' he' => (List.nodup_append.mp W.both).2.2 _ (List.mem_map.mpr ⟨e, he, rfl⟩) _ (List.mem_map.mpr ⟨e', he', rfl⟩)
def OLay.rows (O : OLay) : Rows := O.ents.map fun e => (e.n, e.row)
def OLay.wd (O : OLay) : Wd := ⟨O.rows, O.came, O.clock⟩
def findO (es : List OEnt) (n : Int) : Option OEnt := es.find? fun e => decide (e.n = n)
theorem findO_mem {es : List OEnt} {n : Int} {e : OEnt} (h : findO es n = some e) : e ∈ es ∧ e.n = n := ⟨List.mem_of_find?_eq_some h, by have := List.find?_some h; simpa using this⟩
theorem OLay.find (O : OLay) (n : Int) : findR O.rows n = (findO O.ents n).map (·.row) := by
  unfold findR findO OLay.rows
  rw [List.find?_map]
  cases q : O.ents.find? ((fun p : Int × Row => decide (p.1 = n)) ∘ fun e : OEnt => (e.n, e.row)) with
  | none =>
    have : O.ents.find? (fun e => decide (e.n = n)) = none := q
    rw [this]
    rfl
  | some e =>
    have : O.ents.find? (fun e => decide (e.n = n)) = some e := q
    rw [this]
    rfl
theorem OLay.ent {O : OLay} {n : Int} {r : Row} (h : findR O.rows n = some r) : ∃ e, findO O.ents n = some e ∧ e.row = r := by
  rw [O.find] at h
  cases q : findO O.ents n with
  | none => rw [q] at h; cases h
  | some e => rw [q] at h; exact ⟨e, rfl, Option.some.inj h⟩
theorem valV_oK {es : List OEnt} {n : Int} : valV (es.map oK) (Sum.inl n) = (findO es n).map fun e => V.ref e.a := by
  unfold valV findO
  rw [List.find?_map]
  have e : ((fun kv : Key × V => decide (kv.1 = Sum.inl n)) ∘ oK) = fun e : OEnt => decide (e.n = n) := by
    funext e
    show decide (Sum.inl e.n = (Sum.inl n : Key)) = decide (e.n = n)
    by_cases h : e.n = n
    · rw [decide_eq_true h, decide_eq_true (by rw [h])]
    · rw [decide_eq_false h, decide_eq_false (fun z => h (Sum.inl.inj z))]
  rw [e]
  cases es.find? fun e => decide (e.n = n) <;> rfl
theorem inr_eq {a b : String} : ((Sum.inr (Str.ofString a) : Key) = Sum.inr (Str.ofString b)) = (a = b) := by
  rw [← ofString_inj]
  exact propext ⟨Sum.inr.inj, fun h => by rw [h]⟩
section
variable {H : Hp} {O : OLay} {n : Int} {e : OEnt}
theorem g_rows (h : H O.p = some (.dK (ownK O.d O.came O.clock))) : DGet H O.p (.str (Str.ofString "rows")) (some (.ref O.d)) := .inl ⟨_, Sum.inr "rows", .inl h, rfl, by simp [valV, ownK, List.find?_cons, ofString_inj]⟩
theorem g_came (h : H O.p = some (.dK (ownK O.d O.came O.clock))) : DGet H O.p (.str (Str.ofString "came")) (some (.int O.came)) := .inl ⟨_, Sum.inr "came", .inl h, rfl, by simp [valV, ownK, List.find?_cons, ofString_inj]⟩
theorem g_clock (h : H O.p = some (.dK (ownK O.d O.came O.clock))) : DGet H O.p (.str (Str.ofString "clock")) (some (.int O.clock)) := .inl ⟨_, Sum.inr "clock", .inl h, rfl, by simp [valV, ownK, List.find?_cons, ofString_inj]⟩
theorem g_by {r : Row} {a v : Addr} (h : H a = some (.dK (rowK r v))) : DGet H a (.str (Str.ofString "by")) (some (.str r.who)) := .inl ⟨_, Sum.inr "by", .inl h, rfl, by simp [valV, rowK, List.find?_cons, ofString_inj]⟩
theorem g_under {r : Row} {a v : Addr} (h : H a = some (.dK (rowK r v))) : DGet H a (.str (Str.ofString "under")) (some (.int r.under)) := .inl ⟨_, Sum.inr "under", .inl h, rfl, by simp [valV, rowK, List.find?_cons, ofString_inj]⟩
theorem g_text {r : Row} {a v : Addr} (h : H a = some (.dK (rowK r v))) : DGet H a (.str (Str.ofString "text")) (some (tellV r)) := .inl ⟨_, Sum.inr "text", .inl h, rfl, by simp [valV, rowK, List.find?_cons, ofString_inj]⟩
theorem g_time {r : Row} {a v : Addr} (h : H a = some (.dK (rowK r v))) : DGet H a (.str (Str.ofString "time")) (some (.int r.time)) := .inl ⟨_, Sum.inr "time", .inl h, rfl, by simp [valV, rowK, List.find?_cons, ofString_inj]⟩
theorem g_votes {r : Row} {a v : Addr} (h : H a = some (.dK (rowK r v))) : DGet H a (.str (Str.ofString "votes")) (some (.ref v)) := .inl ⟨_, Sum.inr "votes", .inl h, rfl, by simp [valV, rowK, List.find?_cons, ofString_inj]⟩
theorem OwnRd.at (W : OwnRd H O) (h : findO O.ents n = some e) : DGet H O.d (.int n) (some (.ref e.a)) := .inl ⟨_, Sum.inl n, W.dic, rfl, by rw [valV_oK, h]; rfl⟩
theorem OwnRd.isD (W : OwnRd H O) : IsD H O.d := .inl ⟨_, W.dic⟩
theorem OwnRd.same {H' : Hp} (W : OwnRd H O) (s : Same H H') : OwnRd H' O := ⟨s _ _ W.top, W.dic.elim (fun h => .inl (s _ _ h)) (fun ⟨o, h⟩ => .inr ⟨o, s _ _ h⟩), fun e he => s _ _ (W.row e he), fun e he => s _ _ (W.vot e he), W.nk, W.ndv, W.sz, W.vsz⟩
theorem OwnAt.same {H' : Hp} (W : OwnAt H O) (s : Same H H') : OwnAt H' O := ⟨W.rd.same s, s _ _ W.dic, W.nd⟩
/-- under the lock of the rows -/
theorem OwnAt.lock {H' : Hp} {od : Obj} (W : OwnAt H O) (k : ∀ b o, b ≠ O.d → H b = some o → H' b = some o) (hd : H' O.d = some (.frz od (.dK (O.ents.map oK)))) : OwnRd H' O :=
  ⟨k _ _ W.pd W.rd.top, .inr ⟨od, hd⟩, fun e he => k _ _ (W.da e he).1 (W.rd.row e he), fun e he => k _ _ (W.da e he).2.1 (W.rd.vot e he), W.rd.nk, W.rd.ndv, W.rd.sz, W.rd.vsz⟩
end
section
variable {P : Program} {w : World} {K : PySem.W.Frag} {mg : Str → Option Value} {base : Heap}
def spOwnD : Sp := fun vs H Q _ => vs = [] ∧ ∀ p d H', H p = none → H d = none → Same H H' → OwnAt H' ⟨p, d, [], 0, 0⟩ → Q (.ref p) H'
def spAbove (K : PySem.W.Frag) : Sp := fun vs H Q _ => ∃ (O : OLay) (n : Int), vs = [.ref O.p, .int n] ∧ OwnRd H O ∧ Wf O.rows ∧ (n = 0 ∨ ∃ r, findR O.rows n = some r) ∧ (aboveR O.rows n).length ≤ 8 ∧ New (.lst ((aboveR O.rows n).map V.int)) H Q
theorem all_flat (l : List Int) : (l.map V.int).all flatV = true := by
  rw [List.all_map]
  exact List.all_eq_true.mpr fun _ _ => rfl
theorem inV_int (n : Int) (l : List Int) : inV (.int n) (l.map V.int) = decide (n ∈ l) := by
  unfold inV
  rw [List.any_map]
  by_cases h : n ∈ l
  · rw [decide_eq_true h]
    exact List.any_eq_true.mpr ⟨n, h, by simp [eqV]⟩
  · rw [decide_eq_false h, List.any_eq_false]
    intro x hx z
    have e : (x == n) = true := z
    rw [beq_iff_eq] at e
    exact h (e ▸ hx)
def spBeneath (K : PySem.W.Frag) : Sp := fun vs H Q _ => ∃ (O : OLay) (n : Int), vs = [.ref O.p, .int n] ∧ OwnAt H O ∧ Wf O.rows ∧ (∀ p ∈ O.rows, (aboveR O.rows p.1).length ≤ 8) ∧ New (.lst ((sortI (beneathR O.rows n)).map V.int)) H Q
theorem beneath_ents (O : OLay) (n : Int) : O.ents.filterMap (fun e => if n ∈ aboveR O.rows e.n then some (V.int e.n) else none) = (beneathR O.rows n).map V.int := by
  unfold beneathR
  rw [filterMap_if]
  unfold OLay.rows
  rw [List.map_map, List.filter_map, List.map_map]
  rfl
def spPoints (K : PySem.W.Frag) : Sp := fun vs H Q _ => ∃ (a v : Addr) (r : Row), vs = [.ref a] ∧ H a = some (.dK (rowK r v)) ∧ H v = some (.dK (votesK r.votes)) ∧ (r.votes.map (·.1)).Nodup ∧ a ≠ v ∧ r.votes.length < 99999 ∧ ∀ H', Same H H' → Q (.int (r.votes.map (·.2)).sum) H'
end
end Vw
namespace Vw
open PySem PySem.Spec PyProof.Rows L2
local macro_rules | `(tactic| walk_at "rd") => `(tactic| simp only [tSeq, tNext, tIfS, tAsg, tRet, tRetN, tDrop, tVar, tC, tOp, tUn, tTest, tB, tAnd, tOr, tNot, tAndV, tOrV, tNotV, tIf, tChain, tCB, tCons, tNil, tCall, tMeth, tMake, tFld, sFld, tTup, tLst, tTupS, tLstS, tDNewKS, tDNewTS, tTold, tCmp, t2I, tIsN, tNotN, tPar, gName, gNil, gCons, gTup, gSub, rI0, rU, rEq, rNe, tDGet, tDIn, tDNotIn, sDPut, tDNewK, tDGet1, tDGet2, tDPop1, tDPop2, tBM, tBM0, tM0, tM1, tSl, tPart, tNoPart, tBreak, tCont, tThru, L2.start, List.map_cons, List.map_nil, List.length_cons, List.length_nil, List.cons_append, List.nil_append, List.append_nil, List.replicate_succ, List.replicate_zero, Nat.reduceAdd, Nat.reduceSub, Nat.zero_add, List.getElem?_cons_zero, List.getElem?_cons_succ, List.set_cons_zero, List.set_cons_succ, wipe, cxOf_K, tYes, List.cons.injEq, and_self, Option.some.injEq, V.int.injEq, V.bl.injEq, V.ref.injEq, V.str.injEq, exists_eq_left', exists_eq_left, exists_and_left, and_assoc, true_and, and_true, if_true, if_false, ite_true, ite_false, Bool.not_true, Bool.not_false, Bool.false_eq_true, reduceIte])
/-! ### the own wood is changed -/
structure OStep (H : Hp) (O : OLay) (H' : Hp) (O' : OLay) : Prop where
  p : O'.p = O.p
  keep : ∀ b o, b ∉ footO O → H b = some o → H' b = some o
  new : ∀ b ∈ footO O', b ∈ footO O ∨ H b = none
theorem OStep.same {H H' : Hp} {O : OLay} (s : Same H H') : OStep H O H' O := ⟨rfl, fun b o _ e => s b o e, fun b hb => .inl hb⟩
theorem OStep.trans {H H1 H2 : Hp} {O O1 O2 : OLay} (a : OStep H O H1 O1) (b : OStep H1 O1 H2 O2) : OStep H O H2 O2 := by
  refine ⟨b.p.trans a.p, fun c o hc e => b.keep c o (fun h => ?_) (a.keep c o hc e), fun c hc => ?_⟩
  · rcases a.new c h with z | z
    · exact hc z
    · rw [z] at e
      cases e
  · rcases b.new c hc with z | z
    · exact a.new c z
    · by_cases h : c ∈ footO O
      · exact .inl h
      · right
        cases q : H c with
        | none => rfl
        | some o =>
          have := a.keep c o h q
          rw [z] at this
          cases this
def setO (es : List OEnt) (n : Int) (r : Row) : List OEnt := es.map fun e => if e.n = n then { e with row := r } else e
theorem setO_map {β : Type} (f : OEnt → β) (hf : ∀ e r, f { e with row := r } = f e) (es : List OEnt) (n : Int) (r : Row) : (setO es n r).map f = es.map f := by
  unfold setO
  rw [List.map_map]
  refine List.map_congr_left fun e _ => ?_
  show f (if e.n = n then { e with row := r } else e) = f e
  split
  · exact hf e r
  · rfl
theorem mem_setO {es : List OEnt} {n : Int} {r : Row} {e : OEnt} (h : e ∈ setO es n r) : ∃ e0 ∈ es, e.a = e0.a ∧ e.v = e0.v ∧ e.n = e0.n ∧ ((e0.n = n ∧ e.row = r) ∨ (e0.n ≠ n ∧ e = e0)) := by
  obtain ⟨e0, h0, rfl⟩ := List.mem_map.mp h
  refine ⟨e0, h0, ?_⟩
  by_cases c : e0.n = n
  · simp [c]
  · simp [c]
theorem footO_set (O : OLay) (n : Int) (r : Row) : footO { O with ents := setO O.ents n r } = footO O := by
  unfold footO
  show O.p :: O.d :: ((setO O.ents n r).map (·.a) ++ (setO O.ents n r).map (·.v)) = _
  rw [setO_map _ (fun _ _ => rfl), setO_map _ (fun _ _ => rfl)]
theorem rows_setO (O : OLay) (n : Int) (r : Row) : ({ O with ents := setO O.ents n r } : OLay).rows = setR O.rows n r := by
  unfold OLay.rows setO setR
  rw [List.map_map, List.map_map]
  refine List.map_congr_left fun e _ => ?_
  show ((if e.n = n then { e with row := r } else e).n, (if e.n = n then { e with row := r } else e).row) = if e.n = n then (n, r) else (e.n, e.row)
  by_cases c : e.n = n
  · rw [if_pos c, if_pos c, ← c]
  · rw [if_neg c, if_neg c]
/-- a row is another one: its dict and its votes may be written -/
theorem OwnAt.set {H H' : Hp} {O : OLay} (W : OwnAt H O) {e : OEnt} (he : e ∈ O.ents) {r : Row} (h1 : H' e.a = some (.dK (rowK r e.v))) (h2 : H' e.v = some (.dK (votesK r.votes))) (nd : (r.votes.map (·.1)).Nodup) (sz : r.votes.length < 99999)
    (k : ∀ b o, b ≠ e.a → b ≠ e.v → H b = some o → H' b = some o) : OwnAt H' { O with ents := setO O.ents e.n r } := by
  have hda := W.da e he
  have d' : H' O.d = some (.dK ((setO O.ents e.n r).map oK)) := by
    rw [setO_map oK (fun _ _ => rfl)]
    exact k _ _ hda.1.symm hda.2.1.symm W.dic
  have two : ∀ e' ∈ setO O.ents e.n r, H' e'.a = some (.dK (rowK e'.row e'.v)) ∧ H' e'.v = some (.dK (votesK e'.row.votes)) ∧ (e'.row.votes.map (·.1)).Nodup ∧ e'.row.votes.length < 99999 := fun e' h' => by
    obtain ⟨e0, h0, ha, hv, hn, h⟩ := mem_setO h'
    rcases h with ⟨hn0, hr⟩ | ⟨hn0, rfl⟩
    · have : e0 = e := inj_nodup W.rd.nk h0 he hn0
      subst this
      rw [ha, hv, hr]
      exact ⟨h1, h2, nd, sz⟩
    · have na : e'.a ≠ e.a := fun z => hn0 (congrArg OEnt.n (inj_nodup W.nda h0 he z))
      have nv : e'.v ≠ e.v := fun z => hn0 (congrArg OEnt.n (inj_nodup W.ndv h0 he z))
      exact ⟨k _ _ na (W.av e' h0 e he) (W.rd.row e' h0), k _ _ (fun z => W.av e he e' h0 z.symm) nv (W.rd.vot e' h0), W.rd.ndv e' h0, W.rd.vsz e' h0⟩
  refine ⟨⟨k _ _ hda.2.2.1.symm hda.2.2.2.symm W.rd.top, .inl d', fun e' h' => (two e' h').1, fun e' h' => (two e' h').2.1, ?_, fun e' h' => (two e' h').2.2.1, ?_, fun e' h' => (two e' h').2.2.2⟩, d', by rw [footO_set]; exact W.nd⟩
  · show ((setO O.ents e.n r).map (·.n)).Nodup
    rw [setO_map _ (fun _ _ => rfl)]
    exact W.rd.nk
  · show (setO O.ents e.n r).length < 64
    unfold setO
    rw [List.length_map]
    exact W.rd.sz
theorem OStep.set {H H' : Hp} {O : OLay} {e : OEnt} (he : e ∈ O.ents) {r : Row} (k : ∀ b o, b ≠ e.a → b ≠ e.v → H b = some o → H' b = some o) : OStep H O H' { O with ents := setO O.ents e.n r } :=
  ⟨rfl, fun b o hb q => k b o (fun z => hb (z ▸ List.mem_cons_of_mem _ (List.mem_cons_of_mem _ (mem_foO_a he)))) (fun z => hb (z ▸ List.mem_cons_of_mem _ (List.mem_cons_of_mem _ (mem_foO_v he)))) q, fun b hb => .inl (by rw [footO_set] at hb; exact hb)⟩
/-- the last number, the time -/
theorem OwnAt.top {H H' : Hp} {O : OLay} (W : OwnAt H O) {c k : Int} (h : H' O.p = some (.dK (ownK O.d c k))) (kp : ∀ b o, b ≠ O.p → H b = some o → H' b = some o) : OwnAt H' { O with came := c, clock := k } :=
  ⟨⟨h, .inl (kp _ _ W.pd.symm W.dic), fun e he => kp _ _ (W.da e he).2.2.1 (W.rd.row e he), fun e he => kp _ _ (W.da e he).2.2.2 (W.rd.vot e he), W.rd.nk, W.rd.ndv, W.rd.sz, W.rd.vsz⟩, kp _ _ W.pd.symm W.dic, W.nd⟩
theorem OStep.top {H H' : Hp} {O : OLay} {c k : Int} (kp : ∀ b o, b ≠ O.p → H b = some o → H' b = some o) : OStep H O H' { O with came := c, clock := k } :=
  ⟨rfl, fun b o hb e => kp b o (fun z => hb (z ▸ List.mem_cons_self)) e, fun b hb => .inl hb⟩
/-- one entry goes -/
theorem OwnAt.pop {H H' : Hp} {O : OLay} (W : OwnAt H O) (n : Int) (h : H' O.d = some (.dK (dropK (O.ents.map oK) (Sum.inl n)))) (kp : ∀ b o, b ≠ O.d → H b = some o → H' b = some o) : OwnAt H' { O with ents := O.ents.filter fun e => decide (e.n ≠ n) } := by
  have sub : (O.ents.filter fun e => decide (e.n ≠ n)).Sublist O.ents := List.filter_sublist
  have hd : H' O.d = some (.dK ((O.ents.filter fun e => decide (e.n ≠ n)).map oK)) := by
    rw [h]
    unfold dropK
    rw [List.filter_map]
    have e : ((fun kv : Key × V => decide (kv.1 ≠ Sum.inl n)) ∘ oK) = fun e : OEnt => decide (e.n ≠ n) := by
      funext e
      show decide ((Sum.inl e.n : Key) ≠ Sum.inl n) = decide (e.n ≠ n)
      by_cases c : e.n = n
      · simp [c]
      · simp [c]
    rw [e]
  exact ⟨⟨kp _ _ W.pd W.rd.top, .inl hd, fun e he => kp _ _ (W.da e (sub.mem he)).1 (W.rd.row e (sub.mem he)), fun e he => kp _ _ (W.da e (sub.mem he)).2.1 (W.rd.vot e (sub.mem he)), W.rd.nk.sublist (sub.map _), fun e he => W.rd.ndv e (sub.mem he), Nat.lt_of_le_of_lt sub.length_le W.rd.sz, fun e he => W.rd.vsz e (sub.mem he)⟩, hd,
    W.nd.sublist (List.Sublist.cons₂ _ (List.Sublist.cons₂ _ ((sub.map _).append (sub.map _))))⟩
theorem OStep.pop {H H' : Hp} {O : OLay} (n : Int) (kp : ∀ b o, b ≠ O.d → H b = some o → H' b = some o) : OStep H O H' { O with ents := O.ents.filter fun e => decide (e.n ≠ n) } := by
  have sub : (O.ents.filter fun e => decide (e.n ≠ n)).Sublist O.ents := List.filter_sublist
  exact ⟨rfl, fun b o hb e => kp b o (fun z => hb (z ▸ List.mem_cons_of_mem _ List.mem_cons_self)) e, fun b hb => .inl ((List.Sublist.cons₂ _ (List.Sublist.cons₂ _ ((sub.map _).append (sub.map _)))).mem hb)⟩
theorem rows_pop (O : OLay) (n : Int) : ({ O with ents := O.ents.filter fun e => decide (e.n ≠ n) } : OLay).rows = dropR O.rows n := by
  unfold OLay.rows dropR
  rw [List.filter_map]
  rfl
/-- one more -/
theorem OwnAt.put {H H' : Hp} {O : OLay} (W : OwnAt H O) {n : Int} {a v : Addr} {r : Row} (ha : H a = none) (hv : H v = none) (nav : a ≠ v) (hn : ∀ e ∈ O.ents, e.n ≠ n) (h1 : H' a = some (.dK (rowK r v))) (h2 : H' v = some (.dK (votesK r.votes))) (nd : (r.votes.map (·.1)).Nodup) (vz : r.votes.length < 99999)
    (kp : ∀ b o, b ≠ O.d → H b = some o → H' b = some o) (hd : H' O.d = some (.dK (O.ents.map oK ++ [oK ⟨n, r, a, v⟩]))) (sz : O.ents.length + 1 < 64) : OwnAt H' { O with ents := O.ents ++ [⟨n, r, a, v⟩] } := by
  have hd' : H' O.d = some (.dK ((O.ents ++ [(⟨n, r, a, v⟩ : OEnt)]).map oK)) := by
    rw [List.map_append]
    exact hd
  have two : ∀ e ∈ O.ents ++ [(⟨n, r, a, v⟩ : OEnt)], H' e.a = some (.dK (rowK e.row e.v)) ∧ H' e.v = some (.dK (votesK e.row.votes)) ∧ (e.row.votes.map (·.1)).Nodup ∧ e.row.votes.length < 99999 := fun e he => by
    rcases List.mem_append.mp he with he | he
    · exact ⟨kp _ _ (W.da e he).1 (W.rd.row e he), kp _ _ (W.da e he).2.1 (W.rd.vot e he), W.rd.ndv e he, W.rd.vsz e he⟩
    · cases List.mem_singleton.mp he
      exact ⟨h1, h2, nd, vz⟩
  have live : ∀ b ∈ footO O, ∃ o, H b = some o := fun b hb => by
    have q : b = O.p ∨ b = O.d ∨ b ∈ O.ents.map (·.a) ∨ b ∈ O.ents.map (·.v) := by
      unfold footO at hb
      simpa only [List.mem_cons, List.mem_append] using hb
    rcases q with rfl | rfl | q | q
    · exact ⟨_, W.rd.top⟩
    · exact ⟨_, W.dic⟩
    · obtain ⟨e, he, rfl⟩ := List.mem_map.mp q
      exact ⟨_, W.rd.row e he⟩
    · obtain ⟨e, he, rfl⟩ := List.mem_map.mp q
      exact ⟨_, W.rd.vot e he⟩
  have no : ∀ {x : Addr}, H x = none → x ∉ footO O := fun {x} hx hm => by
    obtain ⟨o, ho⟩ := live x hm
    rw [hx] at ho
    cases ho
  refine ⟨⟨kp _ _ W.pd W.rd.top, .inl hd', fun e he => (two e he).1, fun e he => (two e he).2.1, ?_, fun e he => (two e he).2.2.1, ?_, fun e he => (two e he).2.2.2⟩, hd', ?_⟩
  · show ((O.ents ++ [(⟨n, r, a, v⟩ : OEnt)]).map (·.n)).Nodup
    rw [List.map_append]
    refine nd_snoc W.rd.nk fun m => ?_
    obtain ⟨e, he, q⟩ := List.mem_map.mp m
    exact hn e he q
  · show (O.ents ++ [_]).length < 64
    rw [List.length_append]
    exact sz
  · have perm : (footO { O with ents := O.ents ++ [⟨n, r, a, v⟩] }).Perm (a :: v :: footO O) := by
      unfold footO
      show (O.p :: O.d :: ((O.ents ++ [(⟨n, r, a, v⟩ : OEnt)]).map (·.a) ++ (O.ents ++ [(⟨n, r, a, v⟩ : OEnt)]).map (·.v))).Perm _
      rw [List.map_append, List.map_append]
      show (O.p :: O.d :: ((O.ents.map (·.a) ++ [a]) ++ (O.ents.map (·.v) ++ [v]))).Perm _
      have p1 : ((O.ents.map (·.a) ++ [a]) ++ (O.ents.map (·.v) ++ [v])).Perm (a :: v :: (O.ents.map (·.a) ++ O.ents.map (·.v))) := by
        have q1 : (O.ents.map (·.a) ++ [a]).Perm (a :: O.ents.map (·.a)) := List.perm_append_singleton _ _
        have q2 : (O.ents.map (·.v) ++ [v]).Perm (v :: O.ents.map (·.v)) := List.perm_append_singleton _ _
        refine (q1.append q2).trans ?_
        exact (List.perm_middle (l₁ := O.ents.map (·.a))).cons a
      refine ((p1.cons O.d).cons O.p).trans ?_
      have s1 : (O.p :: O.d :: a :: v :: (O.ents.map (·.a) ++ O.ents.map (·.v))).Perm (a :: O.p :: O.d :: v :: (O.ents.map (·.a) ++ O.ents.map (·.v))) := ((List.Perm.swap a O.d _).cons O.p).trans (List.Perm.swap a O.p _)
      refine s1.trans (List.Perm.cons a ?_)
      exact ((List.Perm.swap v O.d _).cons O.p).trans (List.Perm.swap v O.p _)
    refine perm.nodup_iff.mpr (List.nodup_cons.mpr ⟨fun m => ?_, List.nodup_cons.mpr ⟨no hv, W.nd⟩⟩)
    rcases List.mem_cons.mp m with z | z
    · exact nav z
    · exact no ha z
theorem OStep.put {H H' : Hp} {O : OLay} {n : Int} {a v : Addr} {r : Row} (ha : H a = none) (hv : H v = none) (kp : ∀ b o, b ≠ O.d → H b = some o → H' b = some o) : OStep H O H' { O with ents := O.ents ++ [⟨n, r, a, v⟩] } := by
  refine ⟨rfl, fun b o hb e => kp b o (fun z => hb (z ▸ List.mem_cons_of_mem _ List.mem_cons_self)) e, fun b hb => ?_⟩
  have hb : b ∈ O.p :: O.d :: ((O.ents ++ [(⟨n, r, a, v⟩ : OEnt)]).map (·.a) ++ (O.ents ++ [(⟨n, r, a, v⟩ : OEnt)]).map (·.v)) := hb
  simp only [List.mem_cons, List.mem_append, List.map_append, List.map_cons, List.map_nil, List.not_mem_nil, or_false] at hb
  rcases hb with rfl | rfl | (h | rfl) | (h | rfl)
  · exact .inl List.mem_cons_self
  · exact .inl (List.mem_cons_of_mem _ List.mem_cons_self)
  · exact .inl (List.mem_cons_of_mem _ (List.mem_cons_of_mem _ (List.mem_append_left _ h)))
  · exact .inr ha
  · exact .inl (List.mem_cons_of_mem _ (List.mem_cons_of_mem _ (List.mem_append_right _ h)))
  · exact .inr hv
end Vw
namespace Vw
open PySem PySem.Spec PyProof.Rows L2
local macro_rules | `(tactic| walk_at "rd") => `(tactic| simp only [tSeq, tNext, tIfS, tAsg, tRet, tRetN, tDrop, tVar, tC, tOp, tUn, tTest, tB, tAnd, tOr, tNot, tAndV, tOrV, tNotV, tIf, tChain, tCB, tCons, tNil, tCall, tMeth, tMake, tFld, sFld, tTup, tLst, tTupS, tLstS, tDNewKS, tDNewTS, tTold, tCmp, t2I, tIsN, tNotN, tPar, gName, gNil, gCons, gTup, gSub, rI0, rU, rEq, rNe, tDGet, tDIn, tDNotIn, sDPut, tDNewK, tDGet1, tDGet2, tDPop1, tDPop2, tBM, tBM0, tM0, tM1, tSl, tPart, tNoPart, tBreak, tCont, tThru, L2.start, List.map_cons, List.map_nil, List.length_cons, List.length_nil, List.cons_append, List.nil_append, List.append_nil, List.replicate_succ, List.replicate_zero, Nat.reduceAdd, Nat.reduceSub, Nat.zero_add, List.getElem?_cons_zero, List.getElem?_cons_succ, List.set_cons_zero, List.set_cons_succ, wipe, cxOf_K, tYes, List.cons.injEq, and_self, Option.some.injEq, V.int.injEq, V.bl.injEq, V.ref.injEq, V.str.injEq, exists_eq_left', exists_eq_left, exists_and_left, and_assoc, true_and, and_true, if_true, if_false, ite_true, ite_false, Bool.not_true, Bool.not_false, Bool.false_eq_true, reduceIte])
theorem underG {M : Wd} (G : Good M) (n : Int) : underOk M (.int n) = true ↔ n = 0 ∨ ∃ r, findR M.rows n = some r := by
  show (decide (n = 0) || (decide (1 ≤ n) && decide (n ≤ M.came) && (findR M.rows n).isSome)) = true ↔ _
  constructor
  · intro h
    simp only [Bool.or_eq_true, Bool.and_eq_true, decide_eq_true_eq, Option.isSome_iff_exists] at h
    rcases h with h | ⟨_, h⟩
    · exact .inl h
    · exact .inr h
  · intro h
    simp only [Bool.or_eq_true, Bool.and_eq_true, decide_eq_true_eq, Option.isSome_iff_exists]
    rcases h with h | ⟨r, h⟩
    · exact .inl h
    · have m := findR_mem h
      have h1 := G.wf.pos _ m
      have h2 := G.le _ m
      exact .inr ⟨⟨h1, h2⟩, r, h⟩
theorem put_came (d : Addr) (c k z : Int) : putK (ownK d c k) (Sum.inr "came") (.int z) = ownK d z k := by simp [ownK, putK, ofString_inj]
theorem put_clock (d : Addr) (c k z : Int) : putK (ownK d c k) (Sum.inr "clock") (.int z) = ownK d c z := by simp [ownK, putK, ofString_inj]
theorem put_new {es : List OEnt} {n : Int} {r : Row} {a v : Addr} (h : ∀ e ∈ es, e.n ≠ n) : putK (es.map oK) (Sum.inl n) (.ref a) = es.map oK ++ [oK ⟨n, r, a, v⟩] := by
  unfold putK
  rw [if_neg]
  · rfl
  · intro z
    obtain ⟨kv, hm, e⟩ := List.any_eq_true.mp z
    obtain ⟨e0, he, rfl⟩ := List.mem_map.mp hm
    have e : (oK e0).1 = Sum.inl n := by simpa using e
    exact h e0 he (Sum.inl.inj e)
theorem merge_row (who text : Str) (n t : Int) (v : Addr) : mergeK [] (rowK ⟨who, n, text, t, [], false⟩ v) = rowK ⟨who, n, text, t, [], false⟩ v := by simp [mergeK, rowK, putK, ofString_inj]
theorem New.refu {x : Str} {H : Hp} {Q : VK} (r : Refu x H Q) : New (.tup [.str "refused", .str x]) H Q := fun p H' n s e => r p H' n s e
theorem Refu.mono {x : Str} {H H1 : Hp} {Q : VK} (r : Refu x H Q) (s : Same H H1) : Refu x H1 Q := fun p H' n s' e => r p H' (s.free n) (s.trans s') e
section
variable {P : Program} {w : World} {K : PySem.W.Frag} {mg : Str → Option Value} {base : Heap}
def spOSay (K : PySem.W.Frag) : Sp := fun vs H Q _ => ∃ (O : OLay) (who : Str) (n : Int) (text : Str), vs = [.ref O.p, .str who, .int n, .str text] ∧ OwnAt H O ∧ Good O.wd ∧ nameZ who = true ∧ textZ text = true ∧
  (∀ k M, sayM O.wd (.str who) (.int n) (.str text) = .ok (k, M) → ∀ H' O', OwnAt H' O' → O'.wd = M → OStep H O H' O' → Q (.int k) H') ∧ (∀ e, sayM O.wd (.str who) (.int n) (.str text) = .error e → Refu e.cls H Q)
end
end Vw
namespace Vw
open PySem PySem.Spec PyProof.Rows L2
/-! ### a wood that can be stays one -/
theorem above_congr {rs rs' : Rows} : ∀ (k : Nat) (n : Int), n.toNat ≤ k → (∀ m, (m = n ∨ m ∈ aboveR rs n) → upR rs' m = upR rs m) → aboveR rs' n = aboveR rs n
  | k, n, hk, h => by
    have e := h n (.inl rfl)
    rw [aboveR]
    conv => rhs; rw [aboveR]
    rw [e]
    by_cases c : 0 < n ∧ 0 ≤ upR rs n ∧ upR rs n < n
    · rw [dif_pos c, dif_pos c]
      have mem : ∀ m, (m = upR rs n ∨ m ∈ aboveR rs (upR rs n)) → m ∈ aboveR rs n := fun m hm => by
        rw [aboveR, dif_pos c]
        rcases hm with rfl | hm
        · exact List.mem_cons_self
        · exact List.mem_cons_of_mem _ hm
      cases k with
      | zero => omega
      | succ k => rw [above_congr k (upR rs n) (by omega) fun m hm => h m (.inr (mem m hm))]
    · rw [dif_neg c, dif_neg c]
theorem upR_set {rs : Rows} {n : Int} {r r' : Row} (h : findR rs n = some r) (hu : r'.under = r.under) (m : Int) : upR (setR rs n r') m = upR rs m := by
  unfold upR
  rw [findR_setR]
  by_cases e : m = n
  · rw [if_pos e, e, h]
    show r'.under = r.under
    exact hu
  · rw [if_neg e]
theorem above_set {rs : Rows} {n : Int} {r r' : Row} (h : findR rs n = some r) (hu : r'.under = r.under) (m : Int) : aboveR (setR rs n r') m = aboveR rs m := above_congr m.toNat m (Nat.le_refl _) fun x _ => upR_set h hu x
theorem Good.set {M : Wd} (G : Good M) {n : Int} {r r' : Row} (h : findR M.rows n = some r) (hu : r'.under = r.under) : Good { M with rows := setR M.rows n r' } := by
  have key : ∀ p ∈ setR M.rows n r', ∃ q ∈ M.rows, q.1 = p.1 := fun p hp => by
    rcases mem_setR hp with ⟨rfl, r0, h0⟩ | ⟨h0, _⟩
    · exact ⟨_, h0, rfl⟩
    · exact ⟨p, h0, rfl⟩
  refine ⟨G.wf.set h hu, fun p hp => ?_, fun p hp => ?_, ?_⟩
  · obtain ⟨q, hq, e⟩ := key p hp
    rw [← e]
    exact G.le q hq
  · obtain ⟨q, hq, e⟩ := key p hp
    show (aboveR (setR M.rows n r') p.1).length ≤ 8
    rw [above_set h hu, ← e]
    exact G.dp q hq
  · show (setR M.rows n r').length ≤ 60
    unfold setR
    rw [List.length_map]
    exact G.len
theorem upR_drop (rs : Rows) {n m : Int} (h : m ≠ n) : upR (dropR rs n) m = upR rs m := by
  unfold upR
  rw [findR_drop, if_neg h]
theorem above_drop {rs : Rows} (F : Wf rs) {n m : Int} (hr : repliesR rs n = []) (hm : ∃ r, findR rs m = some r) (hn : m ≠ n) : aboveR (dropR rs n) m = aboveR rs m := by
  refine above_congr m.toNat m (Nat.le_refl _) fun x hx => upR_drop rs fun z => ?_
  subst z
  rcases hx with rfl | hx
  · exact hn rfl
  · obtain ⟨c, hc, _⟩ := above_child F m.toNat (Nat.le_refl _) hm hx
    rw [hr] at hc
    cases hc
theorem Good.drop {M : Wd} (G : Good M) {n : Int} (hr : repliesR M.rows n = []) : Good { M with rows := dropR M.rows n } := by
  have key : ∀ p ∈ dropR M.rows n, p ∈ M.rows ∧ p.1 ≠ n := fun p hp => by
    have := List.mem_filter.mp hp
    exact ⟨this.1, by simpa using this.2⟩
  refine ⟨G.wf.drop hr, fun p hp => G.le p (key p hp).1, fun p hp => ?_, ?_⟩
  · obtain ⟨h1, h2⟩ := key p hp
    show (aboveR (dropR M.rows n) p.1).length ≤ 8
    rw [above_drop G.wf hr ⟨p.2, findR_of G.wf.nk h1⟩ h2]
    exact G.dp p h1
  · exact Nat.le_trans (List.length_filter_le _ _) G.len
theorem Good.gone {M : Wd} (G : Good M) : ∀ (k : Nat) (rs : Rows) (n : Int), n.toNat ≤ k → Good { M with rows := rs } → Good { M with rows := (goneR rs n).1 }
  | k, rs, n, hk, g => by
    rw [goneR]
    cases q : findR rs n with
    | none => exact g
    | some r =>
      dsimp only
      split
      · rename_i h
        cases k with
        | zero => omega
        | succ k => exact Good.gone G k (dropR rs n) r.under (by omega) (Good.drop g h.2.2.2.2)
      · exact g
theorem findR_app {rs : Rows} {n : Int} {r : Row} (hn : ∀ p ∈ rs, p.1 ≠ n) (m : Int) : findR (rs ++ [(n, r)]) m = if m = n then some r else findR rs m := by
  unfold findR
  rw [List.find?_append]
  by_cases e : m = n
  · have : rs.find? (fun p => decide (p.1 = m)) = none := List.find?_eq_none.mpr fun p hp => by simpa [e] using hn p hp
    rw [this, if_pos e]
    simp [e]
  · rw [if_neg e]
    cases rs.find? fun p => decide (p.1 = m) with
    | none => simp [List.find?_cons, Ne.symm e]
    | some p => rfl
theorem Good.say {M : Wd} (G : Good M) {b u t : PyData} {k : Int} {M' : Wd} (h : sayM M b u t = .ok (k, M')) (hc : 0 ≤ M.came) : Good M' ∧ M'.came = M.came + 1 ∧ k = M.came + 1 := by
  unfold sayM at h
  split at h
  · cases h
  · split at h
    · cases h
    · rename_i hu
      split at h
      · cases h
      · split at h
        · rename_i who n text _ _
          split at h
          · cases h
          · rename_i hf
            cases h
            have hn : ∀ p ∈ M.rows, p.1 ≠ M.came + 1 := fun p hp => by
              have := G.le p hp
              omega
            have hu : n = 0 ∨ ∃ r, findR M.rows n = some r := by
              have hu : underOk M (.int n) = true := by simpa using hu
              have hu : (decide (n = 0) || (decide (1 ≤ n) && decide (n ≤ M.came) && (findR M.rows n).isSome)) = true := hu
              simp only [Bool.or_eq_true, Bool.and_eq_true, decide_eq_true_eq, Option.isSome_iff_exists] at hu
              exact hu.elim .inl fun z => .inr z.2
            have n0 : 0 ≤ n ∧ n ≤ M.came := by
              rcases hu with rfl | ⟨r, hr⟩
              · exact ⟨by omega, hc⟩
              · have m := findR_mem hr
                have h1 := G.wf.pos _ m
                have h2 := G.le _ m
                have h1 : 0 < n := h1
                exact ⟨by omega, h2⟩
            have ab : ∀ m, m ≠ M.came + 1 → (m = 0 ∨ ∃ r, findR M.rows m = some r) → aboveR (M.rows ++ [(M.came + 1, ⟨who, n, text, M.clock, [], false⟩)]) m = aboveR M.rows m := fun m hm hx => by
              refine above_congr m.toNat m (Nat.le_refl _) fun x hx' => ?_
              have ne : x ≠ M.came + 1 := by
                rcases hx' with rfl | hx'
                · exact hm
                · obtain ⟨a1, a2, a3⟩ := above_lt G.wf hx'
                  rcases a3 with z | ⟨r, z⟩
                  · omega
                  · have := G.le _ (findR_mem z)
                    have : x ≤ M.came := this
                    omega
              unfold upR
              rw [findR_app hn, if_neg ne]
            have F : Wf (M.rows ++ [(M.came + 1, (⟨who, n, text, M.clock, [], false⟩ : Row))]) := by
              refine ⟨?_, fun p hp => ?_, fun p hp => ?_, fun p hp => ?_, fun p hp => ?_⟩
              · rw [List.map_append]
                refine List.nodup_append.mpr ⟨G.wf.nk, by simp, fun a ha b hb => ?_⟩
                obtain ⟨p, hp, rfl⟩ := List.mem_map.mp ha
                have eb : b = M.came + 1 := by simpa using hb
                rw [eb]
                exact hn p hp
              all_goals rcases List.mem_append.mp hp with hp | hp
              · exact G.wf.pos p hp
              · cases List.mem_singleton.mp hp
                show 0 < M.came + 1
                omega
              · exact G.wf.u0 p hp
              · cases List.mem_singleton.mp hp
                exact n0.1
              · exact G.wf.ult p hp
              · cases List.mem_singleton.mp hp
                show n < M.came + 1
                omega
              · rcases G.wf.has p hp with z | ⟨r, z⟩
                · exact .inl z
                · refine .inr ⟨r, ?_⟩
                  rw [findR_app hn, if_neg, z]
                  have := G.le _ (findR_mem z)
                  have : p.2.under ≤ M.came := this
                  omega
              · cases List.mem_singleton.mp hp
                show n = 0 ∨ _
                rcases hu with z | ⟨r, z⟩
                · exact .inl z
                · refine .inr ⟨r, ?_⟩
                  show findR _ n = _
                  rw [findR_app hn, if_neg (by omega), z]
            refine ⟨⟨F, fun p hp => ?_, fun p hp => ?_, ?_⟩, rfl, rfl⟩
            · rcases List.mem_append.mp hp with hp | hp
              · have := G.le p hp
                show p.1 ≤ M.came + 1
                omega
              · cases List.mem_singleton.mp hp
                exact Int.le_refl _
            · rcases List.mem_append.mp hp with hp | hp
              · show (aboveR _ p.1).length ≤ 8
                rw [ab p.1 (hn p hp) (.inr ⟨p.2, findR_of G.wf.nk hp⟩)]
                exact G.dp p hp
              · cases List.mem_singleton.mp hp
                show (aboveR (M.rows ++ [(M.came + 1, (⟨who, n, text, M.clock, [], false⟩ : Row))]) (M.came + 1)).length ≤ 8
                rw [F.above (r := ⟨who, n, text, M.clock, [], false⟩) (by rw [findR_app hn, if_pos rfl])]
                show (n :: aboveR _ n).length ≤ 8
                rw [ab n (by omega) hu]
                by_cases hz : n = 0
                · rw [hz, above_zero]
                  simp
                · have : ¬ 8 ≤ deepI M.rows n + 1 := fun z => hf (.inr ⟨hz, z⟩)
                  obtain ⟨r, hr⟩ := hu.resolve_left hz
                  unfold deepI at this
                  rw [List.length_cons]
                  omega
            · show (M.rows ++ [_]).length ≤ 60
              rw [List.length_append]
              have : ¬ 60 ≤ M.rows.length := fun z => hf (.inl z)
              simp only [List.length_cons, List.length_nil]
              omega
        · cases h
end Vw
namespace Vw
open PySem PySem.Spec PyProof.Rows L2
local macro_rules | `(tactic| walk_at "rd") => `(tactic| simp only [tSeq, tNext, tIfS, tAsg, tRet, tRetN, tDrop, tVar, tC, tOp, tUn, tTest, tB, tAnd, tOr, tNot, tAndV, tOrV, tNotV, tIf, tChain, tCB, tCons, tNil, tCall, tMeth, tMake, tFld, sFld, tTup, tLst, tTupS, tLstS, tDNewKS, tDNewTS, tTold, tCmp, t2I, tIsN, tNotN, tPar, gName, gNil, gCons, gTup, gSub, rI0, rU, rEq, rNe, tDGet, tDIn, tDNotIn, sDPut, tDNewK, tDGet1, tDGet2, tDPop1, tDPop2, tBM, tBM0, tM0, tM1, tSl, tPart, tNoPart, tBreak, tCont, tThru, L2.start, List.map_cons, List.map_nil, List.length_cons, List.length_nil, List.cons_append, List.nil_append, List.append_nil, List.replicate_succ, List.replicate_zero, Nat.reduceAdd, Nat.reduceSub, Nat.zero_add, List.getElem?_cons_zero, List.getElem?_cons_succ, List.set_cons_zero, List.set_cons_succ, wipe, cxOf_K, tYes, List.cons.injEq, and_self, Option.some.injEq, V.int.injEq, V.bl.injEq, V.ref.injEq, V.str.injEq, exists_eq_left', exists_eq_left, exists_and_left, and_assoc, true_and, and_true, if_true, if_false, ite_true, ite_false, Bool.not_true, Bool.not_false, Bool.false_eq_true, reduceIte])
theorem beneath_nil {rs : Rows} (F : Wf rs) (n : Int) : beneathR rs n = [] ↔ repliesR rs n = [] := by
  constructor
  · intro h
    cases q : repliesR rs n with
    | nil => rfl
    | cons c r =>
      have hc : c ∈ repliesR rs n := by rw [q]; exact List.mem_cons_self
      obtain ⟨x, hx, _⟩ := mem_replies.mp hc
      have : c ∈ beneathR rs n := mem_beneath.mpr ⟨⟨x, hx⟩, by rw [reply_above F hc]; exact List.mem_cons_self⟩
      rw [h] at this
      cases this
  · intro h
    cases q : beneathR rs n with
    | nil => rfl
    | cons c r =>
      have hc : c ∈ beneathR rs n := by rw [q]; exact List.mem_cons_self
      obtain ⟨⟨x, hx⟩, ha⟩ := mem_beneath.mp hc
      obtain ⟨d, hd, _⟩ := above_child F c.toNat (Nat.le_refl _) ⟨x, findR_of F.nk hx⟩ ha
      rw [h] at hd
      cases hd
theorem put_text (r : Row) (v : Addr) : putK (rowK r v) (Sum.inr "text") .non = rowK { r with struck := true } v := by simp [rowK, putK, ofString_inj, tellV]
section
variable {P : Program} {w : World} {K : PySem.W.Frag} {mg : Str → Option Value} {base : Heap}
def spOStrike (K : PySem.W.Frag) : Sp := fun vs H Q _ => ∃ (O : OLay) (n : Int) (r : Row), vs = [.ref O.p, .int n] ∧ OwnAt H O ∧ Good O.wd ∧ findR O.rows n = some r ∧
  ∀ H' O', OwnAt H' O' → O'.wd = { O.wd with rows := (goneR (setR O.rows n { r with struck := true }) n).1 } → OStep H O H' O' → Q (.int (goneR (setR O.rows n { r with struck := true }) n).2) H'
end
end Vw
namespace Vw
open PySem PySem.Spec PyProof.Rows L2
local macro_rules | `(tactic| walk_at "rd") => `(tactic| simp only [tSeq, tNext, tIfS, tAsg, tRet, tRetN, tDrop, tVar, tC, tOp, tUn, tTest, tB, tAnd, tOr, tNot, tAndV, tOrV, tNotV, tIf, tChain, tCB, tCons, tNil, tCall, tMeth, tMake, tFld, sFld, tTup, tLst, tTupS, tLstS, tDNewKS, tDNewTS, tTold, tCmp, t2I, tIsN, tNotN, tPar, gName, gNil, gCons, gTup, gSub, rI0, rU, rEq, rNe, tDGet, tDIn, tDNotIn, sDPut, tDNewK, tDGet1, tDGet2, tDPop1, tDPop2, tBM, tBM0, tM0, tM1, tSl, tPart, tNoPart, tBreak, tCont, tThru, L2.start, List.map_cons, List.map_nil, List.length_cons, List.length_nil, List.cons_append, List.nil_append, List.append_nil, List.replicate_succ, List.replicate_zero, Nat.reduceAdd, Nat.reduceSub, Nat.zero_add, List.getElem?_cons_zero, List.getElem?_cons_succ, List.set_cons_zero, List.set_cons_succ, wipe, cxOf_K, tYes, List.cons.injEq, and_self, Option.some.injEq, V.int.injEq, V.bl.injEq, V.ref.injEq, V.str.injEq, exists_eq_left', exists_eq_left, exists_and_left, and_assoc, true_and, and_true, if_true, if_false, ite_true, ite_false, Bool.not_true, Bool.not_false, Bool.false_eq_true, reduceIte])
/-! ### deeds -/
inductive Deed where
  | say (n : Int) (who text : Str)
  | tick (k : Int) (who : Str)
  | change (n : Int) (who text : Str)
  | strike (n : Int) (who : Str)
  | vote (n : Int) (who : Str) (way : Int)
def Deed.tup : Deed → List V
  | .say n who text => [.str "say", .int n, .str who, .str text]
  | .tick k who => [.str "tick", .int k, .str who]
  | .change n who text => [.str "change", .int n, .str who, .str text]
  | .strike n who => [.str "strike", .int n, .str who]
  | .vote n who way => [.str "vote", .int n, .str who, .int way]
structure DeedOk (d : Deed) : Prop where
  who : ∀ {n who text}, d = .say n who text ∨ d = .change n who text → nameZ who = true ∧ textZ text = true
  tick : ∀ {k who}, d = .tick k who → 0 ≤ k ∧ k ≤ 1000
  tickn : ∀ {k who}, d = .tick k who → nameZ who = true
  strike : ∀ {n who}, d = .strike n who → nameZ who = true
  vote : ∀ {n who way}, d = .vote n who way → nameZ who = true ∧ (way = 1 ∨ way = -1 ∨ way = 0)
def actM (M : Wd) : Deed → Except Er (V × Wd)
  | .say n who text => (sayM M (.str who) (.int n) (.str text)).map fun p => (.int p.1, p.2)
  | .tick k _ => .ok (.non, { M with clock := M.clock + k })
  | .change n who text => (changeM M (.int n) (.str who) (.str text)).map fun p => (.non, p)
  | .strike n who => (strikeM M (.int n) (.str who)).map fun p => (.int p.1, p.2)
  | .vote n who way => (voteM M (.int n) (.str who) (.int way)).map fun p => (.int p.1, p.2)
theorem put_text2 {r : Row} {v : Addr} {z : Str} (h : r.struck = false) : putK (rowK r v) (Sum.inr "text") (.str z) = rowK { r with text := z } v := by simp [rowK, putK, ofString_inj, tellV, h]
theorem dq {a b : String} (h : a ≠ b) : decide (V.str (Str.ofString a) = V.str (Str.ofString b)) = false := decide_eq_false fun z => h (by rw [← ofString_inj]; exact V.str.inj z)
theorem dq1 (a : Str) : decide (V.str a = V.str a) = true := decide_eq_true rfl
theorem points_sum : ∀ {r : Row}, (∀ v ∈ r.votes, v.2 = 1 ∨ v.2 = -1) → r.points = (r.votes.map (·.2)).sum := fun {r} h => by
  unfold Row.points Row.ups Row.downs
  generalize r.votes = l at h
  induction l with
  | nil => rfl
  | cons p t ih =>
    obtain ⟨b, w⟩ := p
    have q := ih fun v hv => h v (List.mem_cons_of_mem _ hv)
    have hw : w = 1 ∨ w = -1 := h (b, w) List.mem_cons_self
    rcases hw with e | e
    all_goals subst e; simp [List.filter_cons] at q ⊢; omega
def VotesOk (M : Wd) : Prop := ∀ p ∈ M.rows, ∀ v ∈ p.2.votes, v.2 = 1 ∨ v.2 = -1
theorem sayingG {M : Wd} (G : Good M) (n : Int) : sayingM M (.int n) = (findR M.rows n).map fun r => (n, r) := by
  show (if 1 ≤ n ∧ n ≤ M.came then (findR M.rows n).map fun r => (n, r) else none) = _
  cases q : findR M.rows n with
  | none => split <;> rfl
  | some r =>
    have m := findR_mem q
    have h1 := G.wf.pos _ m
    have h2 := G.le _ m
    have h1 : 0 < n := h1
    have h2 : n ≤ M.came := h2
    rw [if_pos ⟨by omega, h2⟩]
section
variable {P : Program} {w : World} {K : PySem.W.Frag} {mg : Str → Option Value} {base : Heap}
def spAct (K : PySem.W.Frag) : Sp := fun vs H Q _ => ∃ (O : OLay) (p : Addr) (d : Deed), vs = [.ref O.p, .ref p] ∧ SqT K H p d.tup ∧ OwnAt H O ∧ Good O.wd ∧ DeedOk d ∧ VotesOk O.wd ∧ (∀ e ∈ O.ents, e.row.votes.length < 9999) ∧
  (∀ v M, actM O.wd d = .ok (v, M) → ∀ H' O', OwnAt H' O' → O'.wd = M → OStep H O H' O' → Q v H') ∧ (∀ e, actM O.wd d = .error e → Refu e.cls H Q)
end
end Vw
namespace Vw
open PySem PySem.Spec PyProof.Rows L2
local macro_rules | `(tactic| walk_at "rd") => `(tactic| simp only [tSeq, tNext, tIfS, tAsg, tRet, tRetN, tDrop, tVar, tC, tOp, tUn, tTest, tB, tAnd, tOr, tNot, tAndV, tOrV, tNotV, tIf, tChain, tCB, tCons, tNil, tCall, tMeth, tMake, tFld, sFld, tTup, tLst, tTupS, tLstS, tDNewKS, tDNewTS, tTold, tCmp, t2I, tIsN, tNotN, tPar, gName, gNil, gCons, gTup, gSub, rI0, rU, rEq, rNe, tDGet, tDIn, tDNotIn, sDPut, tDNewK, tDGet1, tDGet2, tDPop1, tDPop2, tBM, tBM0, tM0, tM1, tSl, tPart, tNoPart, tBreak, tCont, tThru, L2.start, List.map_cons, List.map_nil, List.length_cons, List.length_nil, List.cons_append, List.nil_append, List.append_nil, List.replicate_succ, List.replicate_zero, Nat.reduceAdd, Nat.reduceSub, Nat.zero_add, List.getElem?_cons_zero, List.getElem?_cons_succ, List.set_cons_zero, List.set_cons_succ, wipe, cxOf_K, tYes, List.cons.injEq, and_self, Option.some.injEq, V.int.injEq, V.bl.injEq, V.ref.injEq, V.str.injEq, exists_eq_left', exists_eq_left, exists_and_left, and_assoc, true_and, and_true, if_true, if_false, ite_true, ite_false, Bool.not_true, Bool.not_false, Bool.false_eq_true, reduceIte])
/-- a wood's deed, by way of a lambda: tables of code objects may grow -/
structure WStep (H : Hp) (L : Lay) (H' : Hp) (L' : Lay) : Prop where
  p : L'.p = L.p
  keep : ∀ b o, b ∉ foot L → H b = some o → (∀ ps, o ≠ .tbl ps) → H' b = some o
  new : ∀ b ∈ foot L', b ∈ foot L ∨ ∀ o, H b = some o → ∃ ps, o = .tbl ps
theorem WStep.of {H H1 H' : Hp} {L L' : Lay} (e : LamX.ExtN H H1) (s : Step H1 L H' L') : WStep H L H' L' :=
  ⟨s.p, fun b o hb h n => s.keep b o hb (e b o h n), fun b hb => (s.new b hb).elim .inl fun z => .inr fun o h => by
    by_cases c : ∃ ps, o = .tbl ps
    · exact c
    · have := e b o h fun ps q => c ⟨ps, q⟩
      rw [z] at this
      cases this⟩
def sixE (e : Er) : Prop := e = .name ∨ e = .no ∨ e = .text ∨ e = .full ∨ e = .yours ∨ e = .number
theorem six_cls {e : Er} (h : sixE e) : e.cls ∈ errs := by
  rcases h with rfl | rfl | rfl | rfl | rfl | rfl <;> decide +kernel
theorem say_errs {M : Wd} {b u t : PyData} {e : Er} (h : sayM M b u t = .error e) : sixE e := by
  unfold sayM at h
  unfold sixE
  repeat' split at h
  all_goals first | (cases h; simp; done) | (cases h; done)
theorem own_errs {M : Wd} {d b : PyData} {e : Er} (h : ownM M d b = .error e) : sixE e := by
  unfold ownM at h
  unfold sixE
  repeat' split at h
  all_goals first | (cases h; simp; done) | (cases h; done)
theorem act_errs {M : Wd} {d : Deed} {e : Er} (h : actM M d = .error e) : e.cls ∈ errs := by
  refine six_cls ?_
  have mp : ∀ {α β : Type} {x : Except Er α} {f : α → β}, x.map f = .error e → x = .error e := fun {α β x f} h => by
    cases x with
    | error e' => cases h; rfl
    | ok a => cases h
  cases d with
  | say n who text => exact say_errs (mp h)
  | tick k who => cases h
  | change n who text =>
    have h := mp h
    unfold changeM at h
    split at h
    · rename_i q
      cases h
      exact own_errs q
    · dsimp only at h
      split at h
      · cases h
      · cases h
        exact .inr (.inr (.inl rfl))
  | strike n who =>
    have h := mp h
    unfold strikeM at h
    split at h
    · rename_i q
      cases h
      exact own_errs q
    · cases h
  | vote n who way =>
    have h := mp h
    unfold voteM at h
    unfold sixE
    repeat' split at h
    all_goals first | (cases h; simp; done) | (cases h; done)
theorem short_text {z : Str} (h : textZ z = true) : Short (.str z) := by
  unfold textZ at h
  simp only [Bool.and_eq_true, decide_eq_true_eq] at h
  show z.length < sizeLine
  rw [sizeLine_eq]
  omega
section
variable {P : Program} {w : World} {K : PySem.W.Frag} {mg : Str → Option Value} {base : Heap}
def spDo (K : PySem.W.Frag) : Sp := fun vs H Q _ => ∃ (L : Lay) (p : Addr) (d : Deed), vs = [.ref L.p, .ref p] ∧ SqT K H p d.tup ∧ WoodAt K H L ∧ Good L.wd ∧ L.ents.length < 64 ∧ DeedOk d ∧ (∀ e ∈ L.ents, e.row.votes.length < 9999) ∧ LamX.Tabs (tabs K) H ∧
  (∀ v M, actM L.wd d = .ok (v, M) → ∀ H' L', WoodAt K H' L' → L'.wd = M → WStep H L H' L' → LamX.Tabs (tabs K) H' → Q v H') ∧
  (∀ e, actM L.wd d = .error e → ∀ r H', LamX.ExtN H H' → LamX.Tabs (tabs K) H' → H' r = some (.tup [.str "refused", .str e.cls]) → Q (.ref r) H')
end
end Vw
namespace Vw
open PySem PySem.Spec PyProof.Rows L2
local macro_rules | `(tactic| walk_at "rd") => `(tactic| simp only [tSeq, tNext, tIfS, tAsg, tRet, tRetN, tDrop, tVar, tC, tOp, tUn, tTest, tB, tAnd, tOr, tNot, tAndV, tOrV, tNotV, tIf, tChain, tCB, tCons, tNil, tCall, tMeth, tMake, tFld, sFld, tTup, tLst, tTupS, tLstS, tDNewKS, tDNewTS, tTold, tCmp, t2I, tIsN, tNotN, tPar, gName, gNil, gCons, gTup, gSub, rI0, rU, rEq, rNe, tDGet, tDIn, tDNotIn, sDPut, tDNewK, tDGet1, tDGet2, tDPop1, tDPop2, tBM, tBM0, tM0, tM1, tSl, tPart, tNoPart, tBreak, tCont, tThru, L2.start, List.map_cons, List.map_nil, List.length_cons, List.length_nil, List.cons_append, List.nil_append, List.append_nil, List.replicate_succ, List.replicate_zero, Nat.reduceAdd, Nat.reduceSub, Nat.zero_add, List.getElem?_cons_zero, List.getElem?_cons_succ, List.set_cons_zero, List.set_cons_succ, wipe, cxOf_K, tYes, List.cons.injEq, and_self, Option.some.injEq, V.int.injEq, V.bl.injEq, V.ref.injEq, V.str.injEq, exists_eq_left', exists_eq_left, exists_and_left, and_assoc, true_and, and_true, if_true, if_false, ite_true, ite_false, Bool.not_true, Bool.not_false, Bool.false_eq_true, reduceIte])
theorem more_abs {c : Int} (h : 0 ≤ c ∧ c < 340282366920938463463374607431768211507) : c.natAbs < 2 ^ bigB :=
  Nat.lt_of_lt_of_le (abs_lt h.1 (Int.lt_trans h.2 (by decide : (340282366920938463463374607431768211507 : Int) < 2 ^ 129))) (Nat.pow_le_pow_right (by omega) (by unfold bigB; omega))
def sm (i : Int) : Nat := (small[i.toNat]?).getD 97
theorem sm_at {i : Int} (h0 : 0 ≤ i) (h1 : i < 26) : atI (Str.ofString "abcdefghijklmnopqrstuvwxyz").cps.toList i = some (sm i) := by
  have l : small.length = 26 := by decide +kernel
  rw [atI_nn h0 (by show i < ((small.length : Nat) : Int); rw [l]; exact h1)]
  unfold sm
  show small[i.toNat]? = _
  rw [List.getElem?_eq_getElem (by rw [l]; omega)]
  rfl
theorem sm_mem {i : Int} (h0 : 0 ≤ i) (h1 : i < 26) : sm i ∈ small := by
  have l : small.length = 26 := by decide +kernel
  unfold sm
  rw [List.getElem?_eq_getElem (by rw [l]; omega)]
  exact List.getElem_mem _
theorem joinL_nil : ∀ l : List Nat, TL.joinL [] (l.map fun c => [c]) = l
  | [] => rfl
  | [a] => rfl
  | a :: b :: r => by
    show [a] ++ ([] ++ TL.joinL [] ((b :: r).map fun c => [c])) = _
    rw [joinL_nil (b :: r)]
    rfl
theorem join_chars {l : List Nat} (f : Nat → Nat) : Txt.join (Str.ofString "") (l.map fun i : Nat => (⟨#[f i]⟩ : Str)) = ⟨(l.map f).toArray⟩ := by
  have e : (l.map fun i : Nat => (⟨#[f i]⟩ : Str)) = ((l.map f).map fun c => [c]).map SX.S := by
    rw [List.map_map, List.map_map]
    rfl
  have e0 : (Str.ofString "") = SX.S [] := by decide +kernel
  rw [e, e0, SX.join_S, joinL_nil]
theorem name_chars {l : List Nat} (h1 : 1 ≤ l.length) (h6 : l.length ≤ 6) (h : ∀ c ∈ l, c ∈ small) : nameZ ⟨l.toArray⟩ = true := by
  unfold nameZ
  have e : (⟨l.toArray⟩ : Str).length = l.length := by show l.toArray.size = _; simp
  rw [e, decide_eq_true h1, decide_eq_true h6]
  show (l.all fun c => decide (c ∈ small)) = true
  exact List.all_eq_true.mpr fun c hc => decide_eq_true (h c hc)
section
variable {P : Program} {w : World} {K : PySem.W.Frag} {mg : Str → Option Value} {base : Heap}
def drawR (x : Int) : Prop := 0 ≤ x ∧ x < 340282366920938463463374607431768211507
def spAnyName : Sp := fun vs H Q _ => ∃ more most : Int, vs = [.int more, .int most] ∧ drawR more ∧ 1 ≤ most ∧ most ≤ 6 ∧ ∀ z H', nameZ z = true → Same H H' → Q (.str z) H'
end
end Vw
namespace Vw
open PySem PySem.Spec PyProof.Rows L2
local macro_rules | `(tactic| walk_at "rd") => `(tactic| simp only [tSeq, tNext, tIfS, tAsg, tRet, tRetN, tDrop, tVar, tC, tOp, tUn, tTest, tB, tAnd, tOr, tNot, tAndV, tOrV, tNotV, tIf, tChain, tCB, tCons, tNil, tCall, tMeth, tMake, tFld, sFld, tTup, tLst, tTupS, tLstS, tDNewKS, tDNewTS, tTold, tCmp, t2I, tIsN, tNotN, tPar, gName, gNil, gCons, gTup, gSub, rI0, rU, rEq, rNe, tDGet, tDIn, tDNotIn, sDPut, tDNewK, tDGet1, tDGet2, tDPop1, tDPop2, tBM, tBM0, tM0, tM1, tSl, tPart, tNoPart, tBreak, tCont, tThru, L2.start, List.map_cons, List.map_nil, List.length_cons, List.length_nil, List.cons_append, List.nil_append, List.append_nil, List.replicate_succ, List.replicate_zero, Nat.reduceAdd, Nat.reduceSub, Nat.zero_add, List.getElem?_cons_zero, List.getElem?_cons_succ, List.set_cons_zero, List.set_cons_succ, wipe, cxOf_K, tYes, List.cons.injEq, and_self, Option.some.injEq, V.int.injEq, V.bl.injEq, V.ref.injEq, V.str.injEq, exists_eq_left', exists_eq_left, exists_and_left, and_assoc, true_and, and_true, if_true, if_false, ite_true, ite_false, Bool.not_true, Bool.not_false, Bool.false_eq_true, reduceIte])
def signs : List Nat := (Str.ofString " !\"#$&'()*+,-./0123456789:;<=>?@ABCDEFGHIJKLMNOPQRSTUVWXYZ[\\]^_`abcdefghijklmnopqrstuvwxyz{|}~").cps.toList
def sg (i : Int) : Nat := (signs[i.toNat]?).getD 97
theorem signs_len : signs.length = 94 := by decide +kernel
theorem signs_ok : ∀ c ∈ signs, signOk c = true := by decide +kernel
theorem sg_at {i : Int} (h0 : 0 ≤ i) (h1 : i < 94) : atI signs i = some (sg i) := by
  have l := signs_len
  rw [atI_nn h0 (by rw [l]; exact h1)]
  unfold sg
  rw [List.getElem?_eq_getElem (by rw [l]; omega)]
  rfl
theorem sg_ok {i : Int} (h0 : 0 ≤ i) (h1 : i < 94) : signOk (sg i) = true := by
  have l := signs_len
  unfold sg
  rw [List.getElem?_eq_getElem (by rw [l]; omega)]
  exact signs_ok _ (List.getElem_mem _)
section
variable {P : Program} {w : World} {K : PySem.W.Frag} {mg : Str → Option Value} {base : Heap}
def spAnyText : Sp := fun vs H Q _ => ∃ more most : Int, vs = [.int more, .int most] ∧ drawR more ∧ 0 ≤ most ∧ most ≤ 29 ∧ ∀ (l : List Nat) H', l.length ≤ 29 → (∀ c ∈ l, signOk c = true) → Same H H' → Q (.str ⟨l.toArray⟩) H'
theorem textZ_of {l : List Nat} (h1 : 1 ≤ l.length) (h30 : l.length ≤ 30) (h : ∀ c ∈ l, signOk c = true) : textZ ⟨l.toArray⟩ = true := by
  unfold textZ
  have e : (⟨l.toArray⟩ : Str).length = l.length := by show l.toArray.size = _; simp
  rw [e, decide_eq_true h1, decide_eq_true h30]
  show (l.all signOk) = true
  exact List.all_eq_true.mpr h
theorem use_div {i j : Int} {H : Hp} {Q : VK} (q : Q (.int (i / j)) H) (h : 0 < j := by decide) (hb : j.natAbs < 2 ^ 64 := by decide) : rI CDivW (fun i j => V.int (i / j)) (.int i) (.int j) H Q := useI (wide_div (b := 64) h hb (by decide) (by decide)) q
theorem use_mod {i j : Int} {H : Hp} {Q : VK} (q : Q (.int (i % j)) H) (h : 0 < j := by decide) : rI (fun _ j => 0 < j) (fun i j => V.int (i % j)) (.int i) (.int j) H Q := useI h q
theorem use_pow {i j : Int} {H : Hp} {Q : VK} (q : Q (.int (i ^ j.toNat)) H) (h : CPow i j := by exact ⟨by decide, by decide, by decide⟩) : rI CPow (fun i j => V.int (i ^ j.toNat)) (.int i) (.int j) H Q := useI h q
theorem atI_ex {xs : List Int} {i : Int} (h0 : 0 ≤ i) (h1 : i < xs.length) : ∃ n ∈ xs, atI (xs.map V.int) i = some (.int n) := by
  have l : i.toNat < xs.length := by omega
  refine ⟨xs[i.toNat], List.getElem_mem l, ?_⟩
  rw [atI_nn h0 (by rw [List.length_map]; exact h1), List.getElem?_map, List.getElem?_eq_getElem l]
  rfl
theorem rep_text {c : Nat} {n : Int} (hc : signOk c = true) (h1 : 1 ≤ n) (h30 : n ≤ 30) : textZ (repS ⟨#[c]⟩ n) = true := by
  unfold repS
  rw [if_neg (by omega)]
  split
  · exact textZ_of (l := [c]) (by show 1 ≤ 1; omega) (by show 1 ≤ 30; omega) fun x hx => by
      rw [List.mem_singleton.mp hx]
      exact hc
  · have e : ((List.replicate n.toNat (⟨#[c]⟩ : Str).cps).foldl (· ++ ·) #[]) = (List.replicate n.toNat c).toArray := by
      apply Array.ext'
      rw [fold_rep]
      show [] ++ (List.replicate n.toNat [c]).flatten = List.replicate n.toNat c
      simp
    rw [e]
    exact textZ_of (by rw [List.length_replicate]; omega) (by rw [List.length_replicate]; omega) fun x hx => by
      rw [(List.mem_replicate.mp hx).2]
      exact hc
theorem app_text {l : List Nat} (hl : l.length ≤ 29) (h : ∀ c ∈ l, signOk c = true) : textZ ((⟨l.toArray⟩ : Str) ++ Str.ofString "x") = true := by
  have e : ((⟨l.toArray⟩ : Str) ++ Str.ofString "x") = ⟨(l ++ [120]).toArray⟩ := by
    have e1 : Str.ofString "x" = ⟨[120].toArray⟩ := by decide +kernel
    rw [e1]
    show (⟨l.toArray ++ [120].toArray⟩ : Str) = _
    simp
  rw [e]
  exact textZ_of (by simp) (by simp; omega) fun c hc => by
    rcases List.mem_append.mp hc with hc | hc
    · exact h c hc
    · rw [List.mem_singleton.mp hc]
      decide
theorem five30 (i : Int) : ∃ m, atI [V.int 5, V.int 30] (i % 2) = some (.int m) ∧ 1 ≤ m ∧ m ≤ 30 := by
  have h : i % 2 = 0 ∨ i % 2 = 1 := by omega
  rcases h with h | h <;> rw [h]
  · exact ⟨5, rfl, by decide, by decide⟩
  · exact ⟨30, rfl, by decide, by decide⟩
theorem ways5 (i : Int) : ∃ m, atI [V.int 1, V.int (-1), V.int 1, V.int (-1), V.int 0] (i % 5) = some (.int m) ∧ (m = 1 ∨ m = -1 ∨ m = 0) := by
  have h : i % 5 = 0 ∨ i % 5 = 1 ∨ i % 5 = 2 ∨ i % 5 = 3 ∨ i % 5 = 4 := by omega
  rcases h with h | h | h | h | h <;> rw [h]
  · exact ⟨1, rfl, by decide⟩
  · exact ⟨-1, rfl, by decide⟩
  · exact ⟨1, rfl, by decide⟩
  · exact ⟨-1, rfl, by decide⟩
  · exact ⟨0, rfl, by decide⟩
theorem ticks5 (i : Int) : ∃ m, atI [V.int 0, V.int 1, V.int 7, V.int 30, V.int 1000] (i % 5) = some (.int m) ∧ 0 ≤ m ∧ m ≤ 1000 := by
  have h : i % 5 = 0 ∨ i % 5 = 1 ∨ i % 5 = 2 ∨ i % 5 = 3 ∨ i % 5 = 4 := by omega
  rcases h with h | h | h | h | h <;> rw [h]
  · exact ⟨0, rfl, by decide⟩
  · exact ⟨1, rfl, by decide⟩
  · exact ⟨7, rfl, by decide⟩
  · exact ⟨30, rfl, by decide⟩
  · exact ⟨1000, rfl, by decide⟩
theorem names6 (i : Int) : ∃ b, atI [V.str (Str.ofString "ann"), V.str (Str.ofString "bob"), V.str (Str.ofString "cy"), V.str (Str.ofString "dd"), V.str (Str.ofString "eve"), V.str (Str.ofString "fay")] (i % 6) = some (.str b) ∧ nameZ b = true := by
  have h : i % 6 = 0 ∨ i % 6 = 1 ∨ i % 6 = 2 ∨ i % 6 = 3 ∨ i % 6 = 4 ∨ i % 6 = 5 := by omega
  rcases h with h | h | h | h | h | h <;> rw [h]
  · exact ⟨"ann", rfl, by decide +kernel⟩
  · exact ⟨"bob", rfl, by decide +kernel⟩
  · exact ⟨"cy", rfl, by decide +kernel⟩
  · exact ⟨"dd", rfl, by decide +kernel⟩
  · exact ⟨"eve", rfl, by decide +kernel⟩
  · exact ⟨"fay", rfl, by decide +kernel⟩
theorem signs8 (i : Int) : ∃ c, atI (Str.ofString "abc XY~!").cps.toList (i % 8) = some c ∧ signOk c = true := by
  have e : (Str.ofString "abc XY~!").cps.toList = [97, 98, 99, 32, 88, 89, 126, 33] := by decide +kernel
  rw [e]
  have h : i % 8 = 0 ∨ i % 8 = 1 ∨ i % 8 = 2 ∨ i % 8 = 3 ∨ i % 8 = 4 ∨ i % 8 = 5 ∨ i % 8 = 6 ∨ i % 8 = 7 := by omega
  rcases h with h | h | h | h | h | h | h | h <;> rw [h]
  all_goals exact ⟨_, rfl, by decide⟩
theorem deed_say {n : Int} {who text : Str} (h1 : nameZ who = true) (h2 : textZ text = true) : DeedOk (.say n who text) := by
  constructor
  · rintro n' who' text' (h | h) <;> cases h
    exact ⟨h1, h2⟩
  all_goals intros; rename_i h; cases h
theorem deed_change {n : Int} {who text : Str} (h1 : nameZ who = true) (h2 : textZ text = true) : DeedOk (.change n who text) := by
  constructor
  · rintro n' who' text' (h | h) <;> cases h
    exact ⟨h1, h2⟩
  all_goals intros; rename_i h; cases h
theorem deed_tick {k : Int} {who : Str} (h1 : 0 ≤ k) (h2 : k ≤ 1000) (h3 : nameZ who = true) : DeedOk (.tick k who) := by
  constructor
  · rintro n' who' text' (h | h) <;> cases h
  · intro k' who' h
    cases h
    exact ⟨h1, h2⟩
  · intro k' who' h
    cases h
    exact h3
  all_goals intros; rename_i h; cases h
theorem deed_strike {n : Int} {who : Str} (h1 : nameZ who = true) : DeedOk (.strike n who) := by
  constructor
  · rintro n' who' text' (h | h) <;> cases h
  · intros; rename_i h; cases h
  · intros; rename_i h; cases h
  · intro k' who' h
    cases h
    exact h1
  · intros; rename_i h; cases h
theorem deed_vote {n way : Int} {who : Str} (h1 : nameZ who = true) (h2 : way = 1 ∨ way = -1 ∨ way = 0) : DeedOk (.vote n who way) := by
  constructor
  · rintro n' who' text' (h | h) <;> cases h
  · intros; rename_i h; cases h
  · intros; rename_i h; cases h
  · intros; rename_i h; cases h
  · intro n' who' way' h
    cases h
    exact ⟨h1, h2⟩
def NamesOk (O : OLay) : Prop := ∀ e ∈ O.ents, nameZ e.row.who = true
def spDeed : Sp := fun vs H Q _ => ∃ (O : OLay) (more : Int), vs = [.int more, .ref O.p] ∧ drawR more ∧ OwnAt H O ∧ NamesOk O ∧ ∀ d p H', DeedOk d → H p = none → Same H H' → H' p = some (.tup d.tup) → Q (.ref p) H'
end
end Vw
namespace Vw
open PySem PySem.Spec PyProof.Rows L2
/-! ### uses of the woods' functions where they go -/
theorem above_has0 {rs : Rows} (F : Wf rs) : ∀ (k : Nat) (n : Int), n.toNat ≤ k → (∃ r, findR rs n = some r) → (0 : Int) ∈ aboveR rs n
  | k, n, hk, ⟨r, hr⟩ => by
    rw [F.above hr]
    obtain ⟨_, u1, u2, u3⟩ := F.up hr
    rcases F.has _ (findR_mem hr) with z | z
    · have z : r.under = 0 := z
      rw [z]
      exact List.mem_cons_self
    · cases k with
      | zero => omega
      | succ k => exact List.mem_cons_of_mem _ (above_has0 F k r.under (by omega) z)
theorem beneath_zero {rs : Rows} (F : Wf rs) : beneathR rs 0 = rs.map (·.1) := by
  unfold beneathR
  refine List.filter_eq_self.mpr fun m hm => ?_
  obtain ⟨p, hp, rfl⟩ := List.mem_map.mp hm
  exact decide_eq_true (above_has0 F p.1.toNat p.1 (Nat.le_refl _) ⟨p.2, findR_of F.nk hp⟩)
theorem filter_keys {rs : Rows} (nk : (rs.map (·.1)).Nodup) (c : Int → Bool) (d : Row → Bool) : ((rs.map (·.1)).filter fun m => c m && (((findR rs m).map d).getD false)) = (rs.filter fun p => c p.1 && d p.2).map (·.1) := by
  rw [List.filter_map]
  congr 1
  refine List.filter_congr fun p hp => ?_
  show (c p.1 && (((findR rs p.1).map d).getD false)) = (c p.1 && d p.2)
  rw [findR_of nk hp]
  rfl
theorem many_eq {rs : Rows} (nk : (rs.map (·.1)).Nodup) (n : Int) : manyR rs n = (rs.filter fun p => decide (n ∈ aboveR rs p.1) && !p.2.struck).length := by
  unfold manyR beneathR
  rw [List.filter_filter]
  have e := congrArg List.length (filter_keys nk (fun m => decide (n ∈ aboveR rs m)) fun r => !r.struck)
  rw [List.length_map] at e
  rw [← e]
  congr 1
  refine List.filter_congr fun m _ => ?_
  exact Bool.and_comm _ _
theorem many_zero {rs : Rows} (F : Wf rs) : manyR rs 0 = (rs.filter fun p => !p.2.struck).length := by
  rw [many_eq F.nk]
  congr 1
  refine List.filter_congr fun p hp => ?_
  rw [decide_eq_true (above_has0 F p.1.toNat p.1 (Nat.le_refl _) ⟨p.2, findR_of F.nk hp⟩)]
  rfl
theorem OLay.keys (O : OLay) : O.ents.map (·.n) = O.rows.map (·.1) := by
  unfold OLay.rows
  rw [List.map_map]
  rfl
theorem Lay.keys (L : Lay) : L.ents.map (·.n) = L.rows.map (·.1) := by
  unfold Lay.rows
  rw [List.map_map]
  rfl
theorem Lay.elen (L : Lay) : L.ents.length = L.rows.length := by
  unfold Lay.rows
  rw [List.length_map]
section
variable {K : PySem.W.Frag} {H : Hp} {L : Lay} {O : OLay} {Q : VK} {E : XK} {n : Int}
theorem Good.l64 (G : Good L.wd) : L.ents.length < 64 := by
  rw [L.elen]
  have : L.rows.length ≤ 60 := G.len
  omega
theorem use_sortO (B : OwnRd H O) (q : New (.lst ((sortI (O.rows.map (·.1))).map V.int)) H Q) : rSortedDN [.ref O.d] H Q := by
  refine ⟨O.d, O.ents.map oK, O.ents.map (·.n), rfl, B.dic, ?_, by rw [List.length_map]; exact B.sz, fun ys hp hs => ?_⟩
  · rw [List.map_map, List.map_map]
    rfl
  · rw [O.keys] at hp
    rw [sortI_eq hp hs]
    exact q
theorem use_numbers (W : WoodAt K H L) (G : Good L.wd) (q : New (.lst ((sortI (L.rows.map (·.1))).map V.int)) H Q) : spNumbers K [.ref L.p] H Q E :=
  ⟨L, rfl, W, G.l64, fun p H' n s e => q p H' n s (by rw [← L.keys]; exact e)⟩
theorem use_neL {a b : Addr} {ns : List Int} (ha : H a = some (.lst (ns.map V.int))) (hb : H b = some (.lst (ns.map V.int))) (q : Q (.bl false) H) : rNeD K (.ref a) (.ref b) H Q := by
  refine use_neD (dp_ints ha) (dp_ints hb) (shaped_ints _) (shaped_ints _) ?_
  rw [eqv_ints, decide_eq_true rfl]
  exact q
theorem use_eqL {a b : Addr} {ns : List Int} (ha : H a = some (.lst (ns.map V.int))) (hb : H b = some (.lst (ns.map V.int))) (q : Q (.bl true) H) : rEqD K (.ref a) (.ref b) H Q := by
  refine use_eqD (dp_ints ha) (dp_ints hb) (shaped_ints _) (shaped_ints _) ?_
  rw [eqv_ints, decide_eq_true rfl]
  exact q
theorem Good.under (G : Good L.wd) (h : n = 0 ∨ ∃ r, findR L.rows n = some r) : underOk L.wd (.int n) = true := by
  show (decide (n = 0) || (decide (1 ≤ n) && decide (n ≤ L.came) && (findR L.rows n).isSome)) = true
  rcases h with h | ⟨r, h⟩
  · simp [h]
  · have h1 := (G.wf.up h).2.1
    have h2 : n ≤ L.came := G.le _ (findR_mem h)
    rw [h]
    simp
    right
    omega
theorem use_below (W : WoodAt K H L) (G : Good L.wd) (h : n = 0 ∨ ∃ r, findR L.rows n = some r) (q : New (.lst ((sortI (beneathR L.rows n)).map V.int)) H Q) : spBelow K 8 [.ref L.p, .int n] H Q E :=
  ⟨L, .int n, .int n, rfl, W, G, .int n, rfl, fun _ _ => by omega, (fun z => by rw [G.under h] at z; cases z), fun m e _ p H' np s hp => by cases e; exact q p H' np s hp⟩
theorem use_many (W : WoodAt K H L) (G : Good L.wd) (h : n = 0 ∨ ∃ r, findR L.rows n = some r) (q : ∀ H', Same H H' → Q (.int (manyR L.rows n : Nat)) H') : spMany K [.ref L.p, .int n] H Q E :=
  ⟨L, .int n, .int n, rfl, W, G, .int n, rfl, (fun z => by rw [G.under h] at z; cases z), fun m e _ H' s => by cases e; exact q H' s⟩
theorem use_replies (W : WoodAt K H L) (G : Good L.wd) (q : New (.lst ((sortI (repliesR L.rows n)).map V.int)) H Q) : spReplies K [.ref L.p, .int n] H Q E :=
  ⟨L, n, rfl, W, G.l64, fun p H' np s hp => q p H' np s hp⟩
theorem int_eq (a : Int) : decide (V.int a = V.int a) = true := decide_eq_true rfl
theorem tell_struck (r : Row) : (!decide (tellV r = V.non)) = !r.struck := by
  unfold tellV
  cases r.struck
  · rw [if_neg (by decide)]
    rfl
  · rw [if_pos rfl]
    rfl
end
theorem rows_eq {L : Lay} {O : OLay} (e : L.wd = O.wd) : O.rows = L.rows := (congrArg Wd.rows e).symm
theorem findO_of {es : List OEnt} (nk : (es.map (·.n)).Nodup) {e : OEnt} (he : e ∈ es) : findO es e.n = some e := by
  induction es with
  | nil => cases he
  | cons q r ih =>
    simp only [List.map_cons, List.nodup_cons] at nk
    unfold findO
    rw [List.find?_cons]
    rcases List.mem_cons.mp he with rfl | he
    · simp
    · have h : ¬ q.n = e.n := fun z => nk.1 (List.mem_map.mpr ⟨e, he, z.symm⟩)
      simp only [h, decide_false]
      exact ih nk.2 he
/-- over the keys of the own rows -/
theorem lcE {te0 : TE} {g : TG} {tt : TT} {te : TE} {vs : List Nat} {σ : L2.St} {H : Hp} {Q : VK} {O : OLay} (f : OEnt → Option V) (B : OwnAt H O) (src : ∀ (H' : Hp) (R : VK), H' O.p = some (.dK (ownK O.d O.came O.clock)) → R (.ref O.d) H' → te0 σ H' R)
    (hs : ∀ e H', e ∈ O.ents → OwnRd H' O → (∀ b o, b ≠ O.d → H b = some o → H' b = some o) → findO O.ents e.n = some e → Turn1 f g tt te vs σ H' e (.int e.n))
    (hd : ∀ D H', H D = none → Same H H' → H' D = some (.lst (O.ents.filterMap f)) → Q (.ref D) H') : tLockE (tLc (iKeys te0) g tt te vs) σ H Q := by
  refine lcK (l := O.ents) oK f B.dic (fun H' R kp h => src H' R (kp _ _ B.pd B.rd.top) h) (by rw [sizeLine_eq]; have := B.rd.sz; omega) (fun e H' od he kp hd => ?_) (fun D H' nD s1 eD => hd D H' nD s1 eD)
  exact hs e H' he (B.lock kp hd) kp (findO_of B.rd.nk he)
theorem rows_fm {β : Type} (O : OLay) (f : Int × Row → Option β) : O.ents.filterMap (fun e => f (e.n, e.row)) = O.rows.filterMap f := by
  unfold OLay.rows
  rw [List.filterMap_map]
  rfl
end Vw
namespace Vw
open PySem PySem.Spec PyProof.Rows L2
local macro_rules | `(tactic| walk_at "rd") => `(tactic| simp only [tSeq, tNext, tIfS, tAsg, tRet, tRetN, tDrop, tVar, tC, tOp, tUn, tTest, tB, tAnd, tOr, tNot, tAndV, tOrV, tNotV, tIf, tChain, tCB, tCons, tNil, tCall, tMeth, tMake, tFld, sFld, tTup, tLst, tTupS, tLstS, tDNewKS, tDNewTS, tTold, tCmp, t2I, tIsN, tNotN, tPar, gName, gNil, gCons, gTup, gSub, rI0, rU, rEq, rNe, tDGet, tDIn, tDNotIn, sDPut, tDNewK, tDGet1, tDGet2, tDPop1, tDPop2, tBM, tBM0, tM0, tM1, tSl, tPart, tNoPart, tBreak, tCont, tThru, L2.start, List.map_cons, List.map_nil, List.length_cons, List.length_nil, List.cons_append, List.nil_append, List.append_nil, List.replicate_succ, List.replicate_zero, Nat.reduceAdd, Nat.reduceSub, Nat.zero_add, List.getElem?_cons_zero, List.getElem?_cons_succ, List.set_cons_zero, List.set_cons_succ, wipe, cxOf_K, tYes, List.cons.injEq, and_self, Option.some.injEq, V.int.injEq, V.bl.injEq, V.ref.injEq, V.str.injEq, exists_eq_left', exists_eq_left, exists_and_left, and_assoc, true_and, and_true, if_true, if_false, ite_true, ite_false, Bool.not_true, Bool.not_false, Bool.false_eq_true, reduceIte])
section
variable {P : Program} {w : World} {K : PySem.W.Frag} {mg : Str → Option Value} {base : Heap}
def spLike (K : PySem.W.Frag) : Sp := fun vs H Q _ => ∃ (L : Lay) (O : OLay), vs = [.ref L.p, .ref O.p] ∧ WoodAt K H L ∧ OwnAt H O ∧ L.wd = O.wd ∧ Good L.wd ∧ VotesOk L.wd ∧ ∀ H', Same H H' → Q (.bl true) H'
end
end Vw
namespace Vw
open PySem PySem.Spec PyProof.Rows L2
local macro_rules | `(tactic| walk_at "rd") => `(tactic| simp only [tSeq, tNext, tIfS, tAsg, tRet, tRetN, tDrop, tVar, tC, tOp, tUn, tTest, tB, tAnd, tOr, tNot, tAndV, tOrV, tNotV, tIf, tChain, tCB, tCons, tNil, tCall, tMeth, tMake, tFld, sFld, tTup, tLst, tTupS, tLstS, tDNewKS, tDNewTS, tTold, tCmp, t2I, tIsN, tNotN, tPar, gName, gNil, gCons, gTup, gSub, rI0, rU, rEq, rNe, tDGet, tDIn, tDNotIn, sDPut, tDNewK, tDGet1, tDGet2, tDPop1, tDPop2, tBM, tBM0, tM0, tM1, tSl, tPart, tNoPart, tBreak, tCont, tThru, L2.start, List.map_cons, List.map_nil, List.length_cons, List.length_nil, List.cons_append, List.nil_append, List.append_nil, List.replicate_succ, List.replicate_zero, Nat.reduceAdd, Nat.reduceSub, Nat.zero_add, List.getElem?_cons_zero, List.getElem?_cons_succ, List.set_cons_zero, List.set_cons_succ, wipe, cxOf_K, tYes, List.cons.injEq, and_self, Option.some.injEq, V.int.injEq, V.bl.injEq, V.ref.injEq, V.str.injEq, exists_eq_left', exists_eq_left, exists_and_left, and_assoc, true_and, and_true, if_true, if_false, ite_true, ite_false, Bool.not_true, Bool.not_false, Bool.false_eq_true, reduceIte])
def RowOk (r : Row) : Prop := nameZ r.who = true ∧ (r.struck = false → textZ r.text = true) ∧ r.text.length ≤ 30
def RowsOk (M : Wd) : Prop := ∀ p ∈ M.rows, RowOk p.2
theorem text_len {z : Str} (h : textZ z = true) : z.length ≤ 30 := by
  unfold textZ at h
  simp only [Bool.and_eq_true, decide_eq_true_eq] at h
  exact h.1.2
theorem small_lt : ∀ c ∈ small, c < 0x110000 := by decide +kernel
theorem str_name {z : Str} (h : nameZ z = true) : PyData.strOk z = true := by
  unfold nameZ at h
  simp only [Bool.and_eq_true, decide_eq_true_eq, List.all_eq_true] at h
  unfold PyData.strOk
  rw [← Array.all_toList, List.all_eq_true]
  exact fun c hc => decide_eq_true (small_lt c (h.2 c hc))
theorem str_text {z : Str} (h : textZ z = true) : PyData.strOk z = true := by
  unfold textZ signOk at h
  simp only [Bool.and_eq_true, decide_eq_true_eq, List.all_eq_true] at h
  unfold PyData.strOk
  rw [← Array.all_toList, List.all_eq_true]
  exact fun c hc => decide_eq_true (by have := (h.2 c hc).1.2; omega)
def tellD (r : Row) : PyData := if r.struck = true then .none else .str r.text
def lookD (r : Row) : PyData := .tuple [.str r.who, .int r.under, tellD r, .int r.time]
def lookV (r : Row) : List V := [.str r.who, .int r.under, tellV r, .int r.time]
theorem dp_look {K : PySem.W.Frag} {H : Hp} {r : Row} {p : Addr} (h : H p = some (.tup (lookV r))) : Dp K H (.ref p) (lookD r) := by
  have ht : Dp K H (tellV r) (tellD r) := by
    unfold tellV tellD
    split
    · exact .non
    · exact .str _
  exact .tup (.inl (.inl h)) (.cons (.str _) (.cons (.int _) (.cons ht (.cons (.int _) .nil))))
theorem shaped_look {r : Row} (h : RowOk r) : SeqAt.shaped (lookD r) = true := by
  unfold lookD tellD
  have h1 := str_name h.1
  have h2' := h.2.1
  cases c : r.struck
  · have h2 := str_text (h2' c)
    rw [if_neg (by decide)]
    simp [SeqAt.shaped, PyData.canLay0, PyData.canLayAll0, PyData.depth, PyData.depthAll, h1, h2]
  · rw [if_pos rfl]
    simp [SeqAt.shaped, PyData.canLay0, PyData.canLayAll0, PyData.depth, PyData.depthAll, h1]
theorem eqv_look (r : Row) : PyData.eqv (lookD r) (lookD r) = true := by
  unfold lookD tellD
  cases r.struck
  · rw [if_neg (by decide)]
    simp [PyData.eqv, PyData.eqvAll]
  · rw [if_pos rfl]
    simp [PyData.eqv, PyData.eqvAll]
theorem ups_of {r : Row} (h : ∀ v ∈ r.votes, v.2 = 1 ∨ v.2 = -1) : ((r.votes.filter fun p => decide (p.2 = 1)).length : Int) = r.ups ∧ (r.votes.length : Int) - ((r.votes.filter fun p => decide (p.2 = 1)).length : Int) = r.downs := by
  unfold Row.ups Row.downs
  generalize r.votes = l at h
  induction l with
  | nil => exact ⟨rfl, rfl⟩
  | cons p t ih =>
    obtain ⟨b, w⟩ := p
    have q := ih fun v hv => h v (List.mem_cons_of_mem _ hv)
    have hw : w = 1 ∨ w = -1 := h (b, w) List.mem_cons_self
    rcases hw with e | e
    all_goals subst e; simp [List.filter_cons] at q ⊢; omega
theorem eqv_pair (a b : Int) : PyData.eqv (.tuple [.int a, .int b]) (.tuple [.int a, .int b]) = true := by simp [PyData.eqv, PyData.eqvAll]
theorem replies_of {rs : Rows} (F : Wf rs) (n : Int) : (beneathR rs n).filter (fun m => decide (upR rs m = n)) = repliesR rs n := by
  unfold beneathR repliesR
  rw [List.filter_filter, List.filter_map]
  congr 1
  refine List.filter_congr fun p hp => ?_
  show (decide (upR rs p.1 = n) && decide (n ∈ aboveR rs p.1)) = decide (p.2.under = n)
  have f := findR_of F.nk hp
  rw [(F.up f).1, F.above f]
  by_cases c : p.2.under = n
  · simp [c]
  · simp [c]
section
variable {P : Program} {w : World} {K : PySem.W.Frag} {mg : Str → Option Value} {base : Heap}
def spOneLike (K : PySem.W.Frag) : Sp := fun vs H Q _ => ∃ (L : Lay) (O : OLay) (n : Int), vs = [.ref L.p, .ref O.p, .int n] ∧ WoodAt K H L ∧ OwnAt H O ∧ L.wd = O.wd ∧ Good L.wd ∧ VotesOk L.wd ∧ RowsOk L.wd ∧ (∃ r, findR L.rows n = some r) ∧ ∀ H', Same H H' → Q (.bl true) H'
end
end Vw
namespace Vw
open PySem PySem.Spec PyProof.Rows L2
local macro_rules | `(tactic| walk_at "rd") => `(tactic| simp only [tSeq, tNext, tIfS, tAsg, tRet, tRetN, tDrop, tVar, tC, tOp, tUn, tTest, tB, tAnd, tOr, tNot, tAndV, tOrV, tNotV, tIf, tChain, tCB, tCons, tNil, tCall, tMeth, tMake, tFld, sFld, tTup, tLst, tTupS, tLstS, tDNewKS, tDNewTS, tTold, tCmp, t2I, tIsN, tNotN, tPar, gName, gNil, gCons, gTup, gSub, rI0, rU, rEq, rNe, tDGet, tDIn, tDNotIn, sDPut, tDNewK, tDGet1, tDGet2, tDPop1, tDPop2, tBM, tBM0, tM0, tM1, tSl, tPart, tNoPart, tBreak, tCont, tThru, L2.start, List.map_cons, List.map_nil, List.length_cons, List.length_nil, List.cons_append, List.nil_append, List.append_nil, List.replicate_succ, List.replicate_zero, Nat.reduceAdd, Nat.reduceSub, Nat.zero_add, List.getElem?_cons_zero, List.getElem?_cons_succ, List.set_cons_zero, List.set_cons_succ, wipe, cxOf_K, tYes, List.cons.injEq, and_self, Option.some.injEq, V.int.injEq, V.bl.injEq, V.ref.injEq, V.str.injEq, exists_eq_left', exists_eq_left, exists_and_left, and_assoc, true_and, and_true, if_true, if_false, ite_true, ite_false, Bool.not_true, Bool.not_false, Bool.false_eq_true, reduceIte])
/-- a wood that can be written here -/
structure WrOk (M : Wd) : Prop where
  r : ∀ p ∈ M.rows, p.1.natAbs < 2 ^ 60 ∧ p.2.under.natAbs < 2 ^ 60 ∧ p.2.time.natAbs < 2 ^ 60 ∧ p.2.who.length ≤ 6 ∧ p.2.text.length ≤ 30 ∧ p.2.votes.length < 1000 ∧ ∀ v ∈ p.2.votes, nameZ v.1 = true
  k : M.clock.natAbs < 2 ^ 60
  c : M.came.natAbs < 2 ^ 60
def writtenM (M : Wd) : Str := Txt.join "\n" ((Str.ofString (toString M.clock) ++ Str.ofString " " ++ Str.ofString (toString M.came)) :: (sortI (M.rows.map (·.1))).map (rowTN M))
theorem log_ok {i : Int} (h : i.natAbs < 2 ^ 60) : i.natAbs.log2 < 1920 := by
  by_cases h0 : i.natAbs = 0
  · rw [h0]
    decide
  · exact (Nat.log2_lt h0).mpr (Nat.lt_trans h (Nat.pow_lt_pow_right (by decide) (by decide)))
theorem votesT_len {vs : List (Str × Int)} (hl : vs.length < 1000) (h : ∀ v ∈ vs, v.1.length ≤ 6) : (votesT vs).length ≤ 7000 := by
  unfold votesT
  have e1 : (Str.ofString "+").length = 1 := by decide +kernel
  have e2 : (Str.ofString "-").length = 1 := by decide +kernel
  have e3 : (Str.ofString "").length = 0 := by decide +kernel
  have e4 : (Str.ofString ".").length = 1 := by decide +kernel
  split
  · omega
  · have q := join_len_le (a := Str.ofString "") (ys := (sortS (vs.map (·.1))).map fun z => (if 0 < voteOf vs z then Str.ofString "+" else Str.ofString "-") ++ z) (b := 7) (n := 999) (fun y hy => ?_) (by rw [List.length_map, (sortS_perm _).length_eq, List.length_map]; omega)
    · rw [e3] at q
      omega
    · obtain ⟨z, hz, rfl⟩ := List.mem_map.mp hy
      obtain ⟨v, hv, rfl⟩ := List.mem_map.mp ((sortS_perm _).mem_iff.mp hz)
      have := h v hv
      rw [str_app_len]
      split <;> omega
theorem name_len {z : Str} (h : nameZ z = true) : z.length ≤ 6 := by
  unfold nameZ at h
  simp only [Bool.and_eq_true, decide_eq_true_eq] at h
  exact h.1.2
theorem strOk_app {a b : Str} (h1 : PyData.strOk a = true) (h2 : PyData.strOk b = true) : PyData.strOk (a ++ b) = true := by
  unfold PyData.strOk at *
  show (a.cps ++ b.cps).all _ = true
  rw [Array.all_append, h1, h2]
  rfl
theorem dps_strs {K : PySem.W.Frag} {H : Hp} : ∀ ys : List Str, DpAll K H (ys.map V.str) (ys.map PyData.str)
  | [] => .nil
  | n :: r => .cons (.str n) (dps_strs r)
theorem canLay_strs : ∀ ys : List Str, (∀ y ∈ ys, PyData.strOk y = true) → PyData.canLayAll0 (ys.map PyData.str) = true
  | [], _ => rfl
  | n :: r, h => by
    simp only [List.map_cons, PyData.canLayAll0, PyData.canLay0, canLay_strs r fun y hy => h y (List.mem_cons_of_mem _ hy), h n List.mem_cons_self, Bool.and_self]
theorem depth_strs : ∀ ys : List Str, PyData.depthAll (ys.map PyData.str) = 0
  | [] => rfl
  | n :: r => by simp only [List.map_cons, PyData.depthAll, PyData.depth, depth_strs r, Nat.max_self]
theorem shaped_strs {ys : List Str} (h : ∀ y ∈ ys, PyData.strOk y = true) : SeqAt.shaped (.list (ys.map PyData.str)) = true := by
  simp [SeqAt.shaped, PyData.canLay0, PyData.depth, canLay_strs ys h, depth_strs]
theorem eqv_strs_nil (ys : List Str) : PyData.eqv (.list (ys.map PyData.str)) (.list []) = decide (ys = []) := by
  cases ys with
  | nil => simp [PyData.eqv, PyData.eqvAll]
  | cons a r => simp [PyData.eqv, PyData.eqvAll]
theorem voteOf_mem {vs : List (Str × Int)} (nd : (vs.map (·.1)).Nodup) {p : Str × Int} (hp : p ∈ vs) : voteOf vs p.1 = p.2 := by
  unfold voteOf
  induction vs with
  | nil => cases hp
  | cons q r ih =>
    simp only [List.map_cons, List.nodup_cons] at nd
    rw [List.find?_cons]
    rcases List.mem_cons.mp hp with rfl | hp
    · simp
    · have h : ¬ q.1 = p.1 := fun z => nd.1 (List.mem_map.mpr ⟨p, hp, z.symm⟩)
      simp only [h, decide_false]
      exact ih nd.2 hp
theorem votesK_keys (vs : List (Str × Int)) : (votesK vs).map (·.1) = (vs.map (·.1)).map Sum.inr := by
  unfold votesK
  rw [List.map_map, List.map_map]
  rfl
section
variable {P : Program} {w : World} {K : PySem.W.Frag} {mg : Str → Option Value} {base : Heap}
def spVotesW (K : PySem.W.Frag) : Sp := fun vs H Q _ => ∃ (a x v : Addr) (r : Row), vs = [.ref a] ∧ SayAt K H a x v r ∧ r.votes.length < 1000 ∧ (∀ v ∈ r.votes, nameZ v.1 = true) ∧ ∀ H', Same H H' → Q (.str (votesT r.votes)) H'
abbrev N_votes_written : List Str := ["one", "some", "name"]
theorem sc_votes_written : FnScope N_votes_written ["one"] (defScope s_votes_written) := ⟨rfl, rfl, rfl, by decide +kernel, rfl, by decide +kernel, by decide +kernel⟩
theorem be_votes_written : BindEq "votes_written" "votes_written" s_votes_written ["one"] := fun _ _ _ _ _ _ us hl => match us, hl with | [_], _ => rfl
theorem D_votes_written (T : Txt K mg base) : Def P w K mg base 1 (He.ga K "votes_written") ["one"] (spVotesW K) := by
  refine mk_def T.f_votes_written sc_votes_written be_votes_written (fun vs H Q E h => ?_) (fun cdv A outer s H vs Q E hr h => ?_)
  · obtain ⟨a, x, v, r, rfl, _⟩ := h
    rfl
  · obtain ⟨a, x, v, r, rfl, S, hl, hn, k⟩ := h
    refine ⟨_, (pss_cons (ps_setLc (i := 1) (own := [("name", 2)]) (g := gName 2) rfl sc_votes_written.nd rfl rfl (sw_true rfl rfl rfl (by decide +kernel)) (pi_list (pe_callB (call_sortedSN rfl) (by rfl) T.b_sorted (by decide +kernel) (pa_cons (pe_fld (pv 0) (by rfl)) pa_nil))) (blkOk_by (N := N_votes_written) (sc := defScope s_votes_written) (by decide +kernel)) (fun _ _ _ _ _ => by exact (pg_name (i := 2) sc_votes_written.nd rfl (Or.inl rfl))) (fun _ _ _ _ _ => pts_nil) (fun _ _ _ _ _ => by exact (pe_op op_add_str (pe_ifExp (pt_cmpR op_gt (pe_dg (pe_fldK K (pv 0)) (pv 2) (by exact hu_of hr)) pe_int (nomark _)) pe_str pe_str) (pv 2))))
      (pss_one (ps_ret (pe_ifExp (pt_ned (pv 1) (pe_lstS pa_nil) (by exact hr.units)) (pe_join pe_str (pv 1)) pe_str)))), ?_⟩
    walk_at "rd"
    have z9 : (100000 : Nat) < sizeLine := by rw [sizeLine_eq]; omega
    have e1 : (Str.ofString "+").length = 1 := by decide +kernel
    have e2 : (Str.ofString "-").length = 1 := by decide +kernel
    have e3 : (Str.ofString "").length = 0 := by decide +kernel
    have sl : (sortS (r.votes.map (·.1))).length < 1000 := by rw [(sortS_perm _).length_eq, List.length_map]; exact hl
    have key : ∀ z ∈ sortS (r.votes.map (·.1)), ∃ p ∈ r.votes, p.1 = z := fun z hz => by
      obtain ⟨p, hp, e⟩ := List.mem_map.mp ((sortS_perm _).mem_iff.mp hz)
      exact ⟨p, hp, e⟩
    refine lcL (l := sortS (r.votes.map (·.1))) V.str (fun z => some (.str ((if 0 < voteOf r.votes z then Str.ofString "+" else Str.ofString "-") ++ z))) (fun R h => ?_) (by omega) (fun z H' hz s1 N1 N0 h1 h0 => ?_) (fun D H1 nD s1 eD => ?_)
    · walk_at "rd"
      refine S.fvotes T ⟨v, _, r.votes.map (·.1), rfl, .inl S.d, votesK_keys _, by rw [List.length_map]; omega, fun ys hp hs p2 H2 n2 s2 e2 => h p2 H2 s2 (SqL.of ?_)⟩
      rw [← sortS_eq hp hs]
      exact e2
    · obtain ⟨p, hp, rfl⟩ := key z hz
      have S1 := S.same s1
      have lp := name_len (hn p hp)
      walk_at "rd"
      refine S1.fvotes T ⟨_, rfl, _, .inl ⟨_, Sum.inr p.1, .inl S1.d, rfl, (votes_at S.nd hp).symm⟩, ?_⟩
      refine ⟨_, rfl, ?_⟩
      have fv := voteOf_mem S.nd hp
      by_cases c : 0 < p.2
      · rw [decide_eq_true c]
        exact iteT ⟨by omega, h1 _ _ (Same.refl _) (by dsimp only; rw [fv, if_pos c])⟩
      · rw [decide_eq_false c]
        exact iteF ⟨by omega, h1 _ _ (Same.refl _) (by dsimp only; rw [fv, if_neg c])⟩
    · have el : (sortS (r.votes.map (·.1))).filterMap (fun z => some (V.str ((if 0 < voteOf r.votes z then Str.ofString "+" else Str.ofString "-") ++ z))) = ((sortS (r.votes.map (·.1))).map fun z => (if 0 < voteOf r.votes z then Str.ofString "+" else Str.ofString "-") ++ z).map V.str := by
        rw [List.filterMap_eq_map', List.map_map]
        rfl
      rw [el] at eD
      walk_at "rd"
      refine ⟨Nat.zero_le _, fun p2 H2 n2 s2 e2 => ?_⟩
      have ps : ∀ y ∈ (sortS (r.votes.map (·.1))).map (fun z => (if 0 < voteOf r.votes z then Str.ofString "+" else Str.ofString "-") ++ z), PyData.strOk y = true ∧ y.length ≤ 7 := fun y hy => by
        obtain ⟨z, hz, rfl⟩ := List.mem_map.mp hy
        obtain ⟨p, hp, rfl⟩ := key z hz
        have l6 := name_len (hn p hp)
        refine ⟨strOk_app ?_ (str_name (hn p hp)), ?_⟩
        · split <;> decide +kernel
        · rw [str_app_len]
          split <;> omega
      have vt : (votesT r.votes) = if r.votes = [] then Str.ofString "." else Txt.join (Str.ofString "") ((sortS (r.votes.map (·.1))).map fun z => (if 0 < voteOf r.votes z then Str.ofString "+" else Str.ofString "-") ++ z) := rfl
      have nil1 : (sortS (r.votes.map (·.1))).map (fun z => (if 0 < voteOf r.votes z then Str.ofString "+" else Str.ofString "-") ++ z) = [] ↔ r.votes = [] := by
        rw [List.map_eq_nil_iff]
        constructor
        · intro z
          have := (sortS_perm (r.votes.map (·.1))).length_eq
          rw [z, List.length_map] at this
          exact List.eq_nil_of_length_eq_zero this.symm
        · intro z
          rw [z]
          exact List.eq_nil_of_length_eq_zero ((sortS_perm _).length_eq)
      have yl : ((sortS (r.votes.map (·.1))).map fun z => (if 0 < voteOf r.votes z then Str.ofString "+" else Str.ofString "-") ++ z).length < 1000 := by
        rw [List.length_map]
        exact sl
      generalize (sortS (r.votes.map (·.1))).map (fun z => (if 0 < voteOf r.votes z then Str.ofString "+" else Str.ofString "-") ++ z) = ys at eD ps vt nil1 yl
      have d1 : Dp K H2 (.ref D) (.list (ys.map PyData.str)) := .lst (SqL.of (s2 _ _ eD)) (dps_strs ys)
      have d2 : Dp K H2 (.ref p2) (.list []) := .lst (SqL.of e2) .nil
      refine use_neD d1 d2 (shaped_strs fun y hy => (ps y hy).1) rfl ⟨_, rfl, ?_⟩
      rw [eqv_strs_nil]
      have k := k H2 (s1.trans s2)
      rw [vt] at k
      by_cases c : ys = []
      · rw [decide_eq_true c]
        rw [if_pos (nil1.mp c)] at k
        exact iteF k
      · rw [decide_eq_false c]
        rw [if_neg fun z => c (nil1.mpr z)] at k
        refine iteT ⟨⟨_, rfl⟩, ys, .inl (SqL.of (s2 _ _ eD)), ?_, k⟩
        have := sum_len_le fun y hy => (ps y hy).2
        rw [e3]
        omega
def spWritten (K : PySem.W.Frag) : Sp := fun vs H Q _ => ∃ L : Lay, vs = [.ref L.p] ∧ WoodAt K H L ∧ Good L.wd ∧ WrOk L.wd ∧ ∀ H', Same H H' → Q (.str (writtenM L.wd)) H'
abbrev N_written : List Str := ["wood", "rows", "number", "one", "words"]
theorem sc_written : FnScope N_written ["wood"] (defScope s_written) := ⟨rfl, rfl, rfl, by decide +kernel, rfl, by decide +kernel, by decide +kernel⟩
theorem be_written : BindEq "written" "written" s_written ["wood"] := fun _ _ _ _ _ _ us hl => match us, hl with | [_], _ => rfl
theorem D_written (T : Txt K mg base) : Def P w K mg base 2 (He.ga K "written") ["wood"] (spWritten K) := by
  refine mk_def T.f_written sc_written be_written (fun vs H Q E h => ?_) (fun cdv A outer s H vs Q E hr h => ?_)
  · obtain ⟨L, rfl, _⟩ := h
    rfl
  · obtain ⟨L, rfl, W, G, ok, k⟩ := h
    refine ⟨_, (pss_cons (ps_set (i := 1) sc_written.nd rfl (Or.inl rfl) (pe_lstS (pa_cons (pe_op op_add_str (pe_op op_add_str (pe_callTy call_str_int (by rfl) T.b_str (by decide +kernel) (pa_cons (pe_fld (pv 0) (by rfl)) pa_nil)) pe_str) (pe_callTy call_str_int (by rfl) T.b_str (by decide +kernel) (pa_cons (pe_fld (pv 0) (by rfl)) pa_nil))) pa_nil)))
      (pss_cons (ps_for ownE rfl (pi_list (pe_md0 (pv 0) T.c_Wood.c T.m_Wood_numbers (D_Wood_numbers T) (by exact hr.mono (by first | decide | omega)) passE)) (pg_name (i := 2) sc_written.nd rfl (Or.inl rfl))
      (pss_cons (ps_set (i := 3) sc_written.nd rfl (Or.inl rfl) (pe_dg (pe_fld (pv 0) (by rfl)) (pv 2) (by exact hu_of hr)))
      (pss_cons (ps_set (i := 4) sc_written.nd rfl (Or.inl rfl) (pe_lstS (pa_cons (pe_callTy call_str_int (by rfl) T.b_str (by decide +kernel) (pa_cons (pv 2) pa_nil)) (pa_cons (pe_callTy call_str_int (by rfl) T.b_str (by decide +kernel) (pa_cons (pe_fld (pv 3) (by rfl)) pa_nil)) (pa_cons (pe_callTy call_str_int (by rfl) T.b_str (by decide +kernel) (pa_cons (pe_fld (pv 3) (by rfl)) pa_nil)) (pa_cons (pe_fld (pv 3) (by rfl)) (pa_cons (pe_cd (D_votes_written T) (by exact hr.mono (by first | decide | omega)) T.g_votes_written passE (pa_cons (pv 3) pa_nil)) pa_nil)))))))
      (pss_one (ps_expr (pe_bm PySem.F.plainAttrs_list PySem.F.slot_list_append PySem.F.type_list_append mt_append (pv 1) (pa_cons (pe_op op_add_str (pe_join pe_str (pv 4)) (pe_ifExp (pt_val (pe_fld (pv 3) (by rfl))) pe_str (pe_op op_add_str pe_str (pe_fld (pv 3) (by rfl))))) pa_nil)))))))
      (pss_one (ps_ret (pe_join pe_str (pv 1)))))), ?_⟩
    walk_at "rd"
    have z9 : (1000000 : Nat) < sizeLine := by rw [sizeLine_eq]; omega
    have e1 : (Str.ofString " ").length = 1 := by decide +kernel
    have e0 : (Str.ofString "").length = 0 := by decide +kernel
    have e2 : (Str.ofString "\n").length = 1 := by decide +kernel
    have lk := toS_len ok.k
    have lc := toS_len ok.c
    have lk : (Str.ofString (toString L.clock)).length ≤ 21 := lk
    have lc : (Str.ofString (toString L.came)).length ≤ 21 := lc
    have F : Wf L.rows := G.wf
    have ln : L.rows.length ≤ 60 := G.len
    refine W.fclock T ⟨_, rfl, log_ok ok.k, by omega, W.fcame T ⟨_, rfl, log_ok ok.c, by rw [str_app_len]; omega, by omega, fun rl H1 n1 s1 e1' => ?_⟩⟩
    generalize hh : Str.ofString (toString L.clock) ++ Str.ofString " " ++ Str.ofString (toString L.came) = hd at e1'
    have hdl : hd.length ≤ 8000 := by
      rw [← hh, str_app_len, str_app_len]
      omega
    have rl1000 : ∀ n, (rowTN L.wd n).length ≤ 8000 := fun n => by
      unfold rowTN
      split
      · rename_i r hr
        obtain ⟨a1, a2, a3, a4, a5, a6, a7⟩ := ok.r _ (findR_mem hr)
        have b1 := toS_len a1
        have b2 := toS_len a2
        have b3 := toS_len a3
        have b5 := votesT_len a6 fun v hv => name_len (a7 v hv)
        unfold rowT
        rw [str_app_len]
        have j := join_len (Str.ofString " ") [Str.ofString (toString n), Str.ofString (toString r.under), Str.ofString (toString r.time), r.who, votesT r.votes]
        simp only [List.map_cons, List.map_nil, List.sum_cons, List.sum_nil, List.length_cons, List.length_nil, e1] at j
        have a4 : r.who.length ≤ 6 := a4
        have a5 : r.text.length ≤ 30 := a5
        have b1 : (Str.ofString (toString n)).length ≤ 21 := b1
        have b2 : (Str.ofString (toString r.under)).length ≤ 21 := b2
        have b3 : (Str.ofString (toString r.time)).length ≤ 21 := b3
        have b5 : (votesT r.votes).length ≤ 7000 := b5
        have t1 : (if r.struck = true then Str.ofString "" else Str.ofString " " ++ r.text).length ≤ 31 := by
          split
          · omega
          · rw [str_app_len]
            omega
        omega
      · show (Str.ofString "").length ≤ 8000
        omega
    refine forL2 (l := sortI (L.rows.map (·.1))) V.int (fun R h => ?_) (fun q i σ' H' => SqL K H' q ((sortI (L.rows.map (·.1))).map V.int) ∧ Same H H' ∧ (∃ x2 x3 x4, σ' = [some (.ref L.p), some (.ref rl), x2, x3, x4]) ∧ H' rl = some (.lst ((hd :: ((sortI (L.rows.map (·.1))).take i).map (rowTN L.wd)).map V.str)))
      (fun q H2 s2 h2 => ⟨h2, s1.trans s2, ⟨_, _, _, rfl⟩, s2 _ _ e1'⟩) (fun q i σ' H' _ h => h.1) (fun q i n σ' H2 D' hi h2 nx ct rt _ => ?_) (fun q σ' H2 h2 => ?_)
    · walk_at "rd"
      have W1 := W.same s1
      exact ⟨_, _, W1.top, fw_no _ _ _ (by decide) (by decide) (by decide), use_numbers W1 G fun p2 H2 n2 s2 e2 => h p2 H2 s2 (SqL.of e2)⟩
    · obtain ⟨hq, s2, ⟨x2, x3, x4, rfl⟩, el⟩ := h2
      have W2 := W.same s2
      walk_at "rd"
      have hm := (sortI_perm _).mem_iff.mp (List.mem_of_getElem? hi)
      obtain ⟨pr, hpr, rfl⟩ := List.mem_map.mp hm
      have hf := findR_of F.nk hpr
      obtain ⟨e, he, er⟩ : ∃ e, findE L.ents pr.1 = some e ∧ e.row = pr.2 := by
        rw [L.find] at hf
        cases q : findE L.ents pr.1 with
        | none => rw [q] at hf; cases hf
        | some e => rw [q] at hf; exact ⟨e, rfl, Option.some.inj hf⟩
      have S := W2.say e (findE_mem he).1
      rw [er] at S
      obtain ⟨a1, a2, a3, a4, a5, a6, a7⟩ := ok.r _ hpr
      refine W2.fsay T (W2.at he ⟨log_ok a1, _, rfl, S.funder T ⟨_, rfl, log_ok a2, _, rfl, S.ftime T ⟨_, rfl, log_ok a3, _, rfl, S.fby T ?_⟩⟩⟩)
      refine ⟨_, _, _, _, rfl, S, a6, a7, fun H3 s3 => ⟨by omega, fun wl H4 n4 s4 e4 => ?_⟩⟩
      have s24 := s3.trans s4
      have el4 := s24 _ _ el
      have S4 := S.same s24
      have jl := join_len (Str.ofString " ") [Str.ofString (toString pr.1), Str.ofString (toString pr.2.under), Str.ofString (toString pr.2.time), pr.2.who, votesT pr.2.votes]
      have b1 := toS_len a1
      have b2 := toS_len a2
      have b3 := toS_len a3
      have b5 := votesT_len a6 fun v hv => name_len (a7 v hv)
      have fit : (([Str.ofString (toString pr.1), Str.ofString (toString pr.2.under), Str.ofString (toString pr.2.time), pr.2.who, votesT pr.2.votes] : List Str).map (·.length)).sum + ([Str.ofString (toString pr.1), Str.ofString (toString pr.2.under), Str.ofString (toString pr.2.time), pr.2.who, votesT pr.2.votes] : List Str).length * (Str.ofString " ").length ≤ 7900 := by
        simp only [List.map_cons, List.map_nil, List.sum_cons, List.sum_nil, List.length_cons, List.length_nil, e1]
        omega
      have ilen : i < L.rows.length := by
        have := (List.getElem?_eq_some_iff.mp hi).1
        rwa [sortI_length, List.length_map] at this
      have rowe : rowTN L.wd pr.1 = rowT pr.1 pr.2 := by
        unfold rowTN
        show (match findR L.rows pr.1 with | some r => rowT pr.1 r | none => "") = _
        rw [hf]
      have fin : rAppend (V.ref rl) [V.str (rowT pr.1 pr.2)] H4 fun _ H1 => D'.nx [some (V.ref L.p), some (V.ref rl), some (V.int pr.1), some (V.ref e.a), some (.ref wl)] H1 := by
        refine ⟨rl, _, _, rfl, rfl, el4, ?_, ?_⟩
        · rw [List.length_map, List.length_cons, List.length_map, List.length_take, sortI_length, List.length_map]
          omega
        · refine nx _ _ ⟨?_, (s2.trans s24).over n1, ⟨_, _, _, rfl⟩, ?_⟩
          · have hq4 := s24.seq hq
            rcases hq4 with (h | ⟨o, h⟩) | h
            · refine .inl (.inl ?_)
              rw [upd_ne (fun z => ?_)]
              · exact h
              · rw [z, el4] at h
                have h := congrArg (fun o : Option HO => match o with | some (.lst xs) => xs | _ => []) h
                cases q : (sortI (L.rows.map (·.1))) with
                | nil => rw [q] at hi; simp at hi
                | cons a b => rw [q] at h; simp at h
            · refine .inl (.inr ⟨o, ?_⟩)
              rw [upd_ne (fun z => by rw [z, el4] at h; cases h)]
              exact h
            · exact .inr h
          · rw [upd_same, List.take_add_one, hi]
            simp [rowe]
      have tr : rowT pr.1 pr.2 = Txt.join (Str.ofString " ") [Str.ofString (toString pr.1), Str.ofString (toString pr.2.under), Str.ofString (toString pr.2.time), pr.2.who, votesT pr.2.votes] ++ (if pr.2.struck then Str.ofString "" else Str.ofString " " ++ pr.2.text) := rfl
      rw [tr] at fin
      refine ⟨.inl ⟨rfl, _, SqL.of el4⟩, ⟨_, rfl⟩, wl, rfl, [Str.ofString (toString pr.1), Str.ofString (toString pr.2.under), Str.ofString (toString pr.2.time), pr.2.who, votesT pr.2.votes], .inl (SqL.of e4), Nat.le_trans fit (by decide), _, rfl, S4.fstruck T ⟨_, rfl, ?_⟩⟩
      cases c : pr.2.struck with
      | true =>
        rw [c] at fin
        exact iteT ⟨by omega, fin⟩
      | false =>
        rw [c] at fin
        exact iteF ⟨_, rfl, S4.ftext T ⟨_, rfl, by omega, by rw [str_app_len]; omega, fin⟩⟩
    · obtain ⟨hq, s2, ⟨x2, x3, x4, rfl⟩, el⟩ := h2
      rw [List.take_length] at el
      walk_at "rd"
      have kk : Q (V.str (Txt.join (Str.ofString "\n") ((Str.ofString (toString L.clock) ++ Str.ofString " " ++ Str.ofString (toString L.came)) :: (sortI (L.rows.map (·.1))).map (rowTN L.wd)))) H2 := k H2 s2
      rw [hh] at kk
      refine ⟨⟨_, rfl⟩, _, .inl (SqL.of el), ?_, kk⟩
      have := sum_len_le (ys := hd :: (sortI (L.rows.map (·.1))).map (rowTN L.wd)) (b := 8000) fun y hy => ?_
      · rw [List.length_cons, List.length_map, sortI_length, List.length_map] at this ⊢
        rw [e2]
        have q : (L.rows.length + 1) * 8000 ≤ 61 * 8000 := Nat.mul_le_mul_right _ (by omega)
        omega
      · rcases List.mem_cons.mp hy with rfl | hy
        · exact hdl
        · obtain ⟨n, _, rfl⟩ := List.mem_map.mp hy
          exact rl1000 n
end
end Vw
namespace Vw
open PySem PySem.Spec PyProof.Rows L2
local macro_rules | `(tactic| walk_at "rd") => `(tactic| simp only [tSeq, tNext, tIfS, tAsg, tRet, tRetN, tDrop, tVar, tC, tOp, tUn, tTest, tB, tAnd, tOr, tNot, tAndV, tOrV, tNotV, tIf, tChain, tCB, tCons, tNil, tCall, tMeth, tMake, tFld, sFld, tTup, tLst, tTupS, tLstS, tDNewKS, tDNewTS, tTold, tCmp, t2I, tIsN, tNotN, tPar, gName, gNil, gCons, gTup, gSub, rI0, rU, rEq, rNe, tDGet, tDIn, tDNotIn, sDPut, tDNewK, tDGet1, tDGet2, tDPop1, tDPop2, tBM, tBM0, tM0, tM1, tSl, tPart, tNoPart, tBreak, tCont, tThru, L2.start, List.map_cons, List.map_nil, List.length_cons, List.length_nil, List.cons_append, List.nil_append, List.append_nil, List.replicate_succ, List.replicate_zero, Nat.reduceAdd, Nat.reduceSub, Nat.zero_add, List.getElem?_cons_zero, List.getElem?_cons_succ, List.set_cons_zero, List.set_cons_succ, wipe, cxOf_K, tYes, List.cons.injEq, and_self, Option.some.injEq, V.int.injEq, V.bl.injEq, V.ref.injEq, V.str.injEq, exists_eq_left', exists_eq_left, exists_and_left, and_assoc, true_and, and_true, if_true, if_false, ite_true, ite_false, Bool.not_true, Bool.not_false, Bool.false_eq_true, reduceIte])
section
variable {P : Program} {w : World} {K : PySem.W.Frag} {mg : Str → Option Value} {base : Heap}
def spNeed (K : PySem.W.Frag) : Sp := fun vs H Q E => ∃ b : Bool, vs = [.bl b] ∧ (b = true → Q .non H) ∧ (b = false → Bad K E .text H)
abbrev N_need : List Str := ["good"]
theorem sc_need : FnScope N_need ["good"] (defScope s_need) := ⟨rfl, rfl, rfl, by decide +kernel, rfl, by decide +kernel, by decide +kernel⟩
theorem be_need : BindEq "need" "need" s_need ["good"] := fun _ _ _ _ _ _ us hl => match us, hl with | [_], _ => rfl
theorem D_need (T : Txt K mg base) : Def P w K mg base 1 (He.ga K "need") ["good"] (spNeed K) := by
  refine mk_def T.f_need sc_need be_need (fun vs H Q E h => ?_) (fun cdv A outer s H vs Q E hr h => ?_)
  · obtain ⟨b, rfl, _⟩ := h
    rfl
  · obtain ⟨b, rfl, k1, k0⟩ := h
    refine ⟨_, (pss_one (ps_if (pt_not (pt_val (pv 0))) (pss_one (ps_rs T.x_BadText)) pss_nil)), ?_⟩
    walk_at "rd"
    cases b with
    | true => exact iteF (k1 rfl)
    | false => exact iteT (k0 rfl)
theorem use_need {H : Hp} {Q : VK} {E : XK} {b : Bool} (k1 : b = true → Q .non H) (k0 : b = false → Bad K E .text H) : spNeed K [.bl b] H Q E := ⟨b, rfl, k1, k0⟩
def figs : List Nat := (Str.ofString "0123456789").cps.toList
theorem figs_iff (c : Nat) : decide (c ∈ figs) = isFig c := by
  have e : figs = [48, 49, 50, 51, 52, 53, 54, 55, 56, 57] := by decide +kernel
  rw [e]
  unfold isFig
  by_cases h : 48 ≤ c ∧ c ≤ 57
  · rw [decide_eq_true h.1, decide_eq_true h.2]
    have : c = 48 ∨ c = 49 ∨ c = 50 ∨ c = 51 ∨ c = 52 ∨ c = 53 ∨ c = 54 ∨ c = 55 ∨ c = 56 ∨ c = 57 := by omega
    exact decide_eq_true (by simpa using this)
  · have h2 : ¬ c ∈ [48, 49, 50, 51, 52, 53, 54, 55, 56, 57] := fun z => h (by
      have z : c = 48 ∨ c = 49 ∨ c = 50 ∨ c = 51 ∨ c = 52 ∨ c = 53 ∨ c = 54 ∨ c = 55 ∨ c = 56 ∨ c = 57 := by simpa using z
      omega)
    rw [decide_eq_false h2]
    by_cases h3 : 48 ≤ c
    · rw [decide_eq_true h3, decide_eq_false (fun z => h ⟨h3, z⟩)]
      rfl
    · rw [decide_eq_false h3]
      rfl
def spNumIn (K : PySem.W.Frag) : Sp := fun vs H Q E => ∃ z : Str, vs = [.str z] ∧ z.length < sizeLine ∧ (∀ n, numIn z = some n → ∀ H', Same H H' → Q (.int n) H') ∧ (numIn z = none → ∀ H', Same H H' → Bad K E .text H')
abbrev N_number_in : List Str := ["word", "sign"]
theorem sc_number_in : FnScope N_number_in ["word"] (defScope s_number_in) := ⟨rfl, rfl, rfl, by decide +kernel, rfl, by decide +kernel, by decide +kernel⟩
theorem be_number_in : BindEq "number_in" "number_in" s_number_in ["word"] := fun _ _ _ _ _ _ us hl => match us, hl with | [_], _ => rfl
theorem D_number_in (T : Txt K mg base) : Def P w K mg base 2 (He.ga K "number_in") ["word"] (spNumIn K) := by
  refine mk_def T.f_number_in sc_number_in be_number_in (fun vs H Q E h => ?_) (fun cdv A outer s H vs Q E hr h => ?_)
  · obtain ⟨z, rfl, _⟩ := h
    rfl
  · obtain ⟨z, rfl, hz, k1, k0⟩ := h
    refine ⟨_, (pss_cons (ps_expr (pe_cd (D_need T) (by exact hr.mono (by first | decide | omega)) T.g_need passE (pa_cons (pe_and (pe_chain op_le op_le pe_int (pe_callB call_len_str (by rfl) T.b_len (by decide +kernel) (pa_cons (pv 0) pa_nil)) (pe_gk T.k_MOST_FIGURES)) (pe_one (pe_callB (cr_all rfl) (by rfl) T.b_all (by decide +kernel) (pa_cons (pe_lc (own := [("sign", 1)]) (g := gName 1) rfl sc_number_in.nd (pi_str (pv 0)) (blkOk_by (N := N_number_in) (sc := defScope s_number_in) (by decide +kernel)) (fun _ _ _ _ _ => by exact (pg_name (i := 1) sc_number_in.nd rfl (Or.inl rfl))) (fun _ _ _ _ _ => pts_nil) (fun _ _ _ _ _ => by exact (pe_cmpR op_in_sign (pv 1) (pe_gk T.k_FIGURES) rfl))) pa_nil)))) pa_nil)))
      (pss_one (ps_ret (pe_callTy call_int_str (by rfl) T.b_int (by decide +kernel) (pa_cons (pv 0) pa_nil))))), ?_⟩
    walk_at "rd"
    have len : ∀ {b : Bool}, z.cps.toList.all isFig = b → numIn z = if (decide (1 ≤ z.length) && decide (z.length ≤ 9) && b) = true then some ((NumText.digitsVal z.cps.toList : Nat) : Int) else none := fun e => by
      unfold numIn
      rw [e]
    refine ⟨Nat.le_of_lt hz, ?_⟩
    by_cases h1 : 1 ≤ (z.length : Int)
    · rw [decide_eq_true h1]
      refine iteT ?_
      by_cases h9 : (z.length : Int) ≤ 9
      · rw [decide_eq_true h9]
        refine iteT ?_
        have h1' : 1 ≤ z.length := by omega
        have h9' : z.length ≤ 9 := by omega
        refine lcS (z := z) (fun c => some (.bl (decide (c ∈ figs)))) (fun R r => by walk_at "rd"; exact r) hz (fun c H' _ s1 N1 N0 q1 q0 => ?_) (fun D H' hD s1 e => ?_)
        · walk_at "rd"
          exact ⟨_, rfl, q1 _ _ (Same.refl _) rfl⟩
        · refine ⟨D, z.cps.toList.map fun c => decide (c ∈ figs), rfl, SqL.of ?_, ?_⟩
          · rw [e, List.filterMap_eq_map', List.map_map]
            rfl
          · have ea : (z.cps.toList.map fun c => decide (c ∈ figs)).all id = z.cps.toList.all isFig := by
              rw [List.all_map]
              congr 1
              funext c
              exact figs_iff c
            dsimp only
            rw [ea]
            refine use_need (fun ha => ⟨_, intText_digits (fun c hc => ?_) (fun h0 => ?_) (by show z.length ≤ 4300; omega), by omega, k1 _ ?_ H' s1⟩) fun ha => k0 ?_ H' s1
            · have := List.all_eq_true.mp ha c hc
              unfold isFig at this
              simpa using this
            · have : z.cps.toList.length = 0 := by rw [h0]; rfl
              have e2 : z.cps.toList.length = z.length := by show z.cps.toList.length = z.cps.size; simp
              omega
            · rw [len ha, decide_eq_true h1', decide_eq_true h9']
              rfl
            · rw [len ha, decide_eq_true h1', decide_eq_true h9']
              rfl
      · rw [decide_eq_false h9]
        refine iteF (use_need (fun z => by cases z) fun _ => k0 ?_ H (Same.refl _))
        unfold numIn
        rw [decide_eq_false (show ¬ z.length ≤ 9 by omega)]
        simp
    · rw [decide_eq_false h1]
      refine iteF (use_need (fun z => by cases z) fun _ => k0 ?_ H (Same.refl _))
      unfold numIn
      rw [decide_eq_false (show ¬ 1 ≤ z.length by omega)]
      simp
def spVotesT (K : PySem.W.Frag) : Sp := fun vs H Q E => ∃ z : Str, vs = [.str z] ∧ z.length < sizeLine ∧ (∀ us, votesR z = .ok us → ∀ D H', H D = none → Same H H' → H' D = some (.dK (votesK us)) → Q (.ref D) H') ∧ (∀ e, votesR z = .error e → ∀ H', Same H H' → Bad K E e H')
abbrev N_votes_in_texts : List Str := ["word", "found", "rest", "end"]
theorem sc_votes_in_texts : FnScope N_votes_in_texts ["word"] (defScope s_votes_in_texts) := ⟨rfl, rfl, rfl, by decide +kernel, rfl, by decide +kernel, by decide +kernel⟩
theorem be_votes_in_texts : BindEq "votes_in" "votes_in" s_votes_in_texts ["word"] := fun _ _ _ _ _ _ us hl => match us, hl with | [_], _ => rfl
theorem D_votes_in_texts (T : Txt K mg base) : Def P w K mg base 2 (He.ga K "votes_in_texts") ["word"] (spVotesT K) := by
  refine mk_def T.f_votes_in_texts sc_votes_in_texts be_votes_in_texts (fun vs H Q E h => ?_) (fun cdv A outer s H vs Q E hr h => ?_)
  · obtain ⟨z, rfl, _⟩ := h
    rfl
  · obtain ⟨z, rfl, hz, k1, k0⟩ := h
    refine ⟨_, (pss_cons (ps_set (i := 1) sc_votes_in_texts.nd rfl (Or.inl rfl) pe_dnewKS)
      (C8.pss_cut (ps_set (i := 2) sc_votes_in_texts.nd rfl (Or.inl rfl) (pe_ifExp (pt_cmpR op_ne (pv 0) pe_str (nomark _)) (pv 0) pe_str))
      (pss_cons (ps_while ownE (pt_cmpR op_ne (pv 2) pe_str (nomark _)) (pss_cons (ps_expr (pe_cd (D_need T) (by exact hr.mono (by first | decide | omega)) T.g_need passE (pa_cons (pe_cmpR op_in_sign (pe_ix ix_str (pv 2) pe_int (fun _ _ => rfl)) pe_str rfl) pa_nil)))
      (pss_cons (ps_set (i := 3) sc_votes_in_texts.nd rfl (Or.inl rfl) pe_int)
      (C8.pss_cut (ps_while ownE (PW.pt (pw_and (pt_cmpR op_lt (pv 3) (pe_callB call_len_str (by rfl) T.b_len (by decide +kernel) (pa_cons (pv 2) pa_nil)) (nomark _)) (pw_and1 (pt_cmpR op_notIn_sign (pe_ix ix_str (pv 2) (pv 3) (fun _ _ => rfl)) pe_str rfl)))) (pss_one (ps_set (i := 3) sc_votes_in_texts.nd rfl (Or.inl rfl) (pe_op op_add (pv 3) pe_int))))
      (pss_cons (ps_expr (pe_cd (D_need_name T) (by exact hr.mono (by first | decide | omega)) T.g_need_name passE (pa_cons (pe_slice sl_str (pv 2) (po_some pe_int) (po_some (pv 3))) pa_nil)))
      (pss_cons (ps_dp (pv 1) (pe_slice sl_str (pv 2) (po_some pe_int) (po_some (pv 3))) (pe_ifExp (pt_cmpR op_eq (pe_ix ix_str (pv 2) pe_int (fun _ _ => rfl)) pe_str (nomark _)) pe_int (pe_un un_neg pe_int)) (by exact hu_of hr))
      (pss_one (ps_set (i := 2) sc_votes_in_texts.nd rfl (Or.inl rfl) (pe_slice sl_str (pv 2) (po_some (pv 3)) po_none)))))))))
      (pss_one (ps_ret (pv 1)))))), ?_⟩
    walk_at "rd"
    intro D H1 nD s1 eD
    have tl : ∀ l : List Nat, (⟨l.toArray⟩ : Str).length = l.length := fun l => by show l.toArray.size = _; simp
    have zl : z.cps.toList.length = z.length := by show z.cps.toList.length = z.cps.size; simp
    refine ⟨fun σ' H' => H' = H1 ∧ ∃ l : List Nat, l.length ≤ z.length ∧ σ' = [some (.str z), some (.ref D), some (.str ⟨l.toArray⟩), none] ∧ votesL l.length [] l = votesR z, ?_, ?_⟩
    · walk_at "rd"
      refine ⟨rfl, ?_⟩
      by_cases c : z = Str.ofString "."
      · rw [decide_eq_true c]
        refine iteF ⟨[], Nat.zero_le _, rfl, ?_⟩
        unfold votesR
        rw [if_pos c]
        rfl
      · rw [decide_eq_false c]
        refine iteT ⟨z.cps.toList, by omega, by cases z; rfl, ?_⟩
        unfold votesR
        rw [if_neg c, zl]
    · rintro σ' H' ⟨rfl, l0, ll0, rfl, ev0⟩
      walk_at "rd"
      refine ⟨fun m σ' H2 => ∃ (l : List Nat) (vs : List (Str × Int)) (v3 : Option V), σ' = [some (.str z), some (.ref D), some (.str ⟨l.toArray⟩), v3] ∧ m = l.length ∧ l.length ≤ z.length ∧ vs.length + l.length ≤ z.length ∧ votesL l.length vs l = votesR z ∧ Same H H2 ∧ H2 D = some (.dK (votesK vs)), ⟨_, l0, [], _, rfl, rfl, ll0, by simpa using ll0, ev0, s1, eD⟩, ?_⟩
      rintro m σ' H2 ⟨l, vs, v3, rfl, rfl, ll, lv, ev, s2, e2⟩
      walk_at "rd"
      refine ⟨rfl, ?_⟩
      have sl := hz
      cases l with
      | nil =>
        rw [decide_eq_true (show (⟨([] : List Nat).toArray⟩ : Str) = Str.ofString "" by decide +kernel)]
        exact iteF (k1 vs ev.symm D H2 nD s2 e2)
      | cons c r =>
        have ne : ¬ (⟨(c :: r).toArray⟩ : Str) = Str.ofString "" := fun z => by
          have := congrArg Str.length z
          rw [tl] at this
          have e0 : (Str.ofString "").length = 0 := by decide +kernel
          rw [e0] at this
          cases this
        rw [decide_eq_false ne]
        simp only [List.length_cons] at ll lv
        have sgn : ∀ c : Nat, decide (c ∈ (Str.ofString "+-").cps.toList) = isSign c := fun c => by
          have e : (Str.ofString "+-").cps.toList = [43, 45] := by decide +kernel
          rw [e]
          unfold isSign
          by_cases h1 : c = 43 <;> by_cases h2 : c = 45 <;> simp [h1, h2]
        have lz : (⟨(c :: r).toArray⟩ : Str).length ≤ sizeLine := by rw [tl, List.length_cons]; omega
        have nl := name_le r
        have at_ : ∀ (j : Nat), j < r.length + 1 → atI (⟨(c :: r).toArray⟩ : Str).cps.toList (j : Int) = (c :: r)[j]? := fun j hj => by
          show atI (c :: r) (j : Int) = _
          rw [atI_nn (by omega) (by rw [List.length_cons]; omega)]
          rfl
        refine iteT ⟨_, fun _ _ h => h, _, 0, c, rfl, rfl, lz, at_ 0 (by omega), c, rfl, ?_⟩
        rw [sgn]
        refine use_need (fun hsg => ?_) (fun hsg => k0 .text ?_ H2 s2)
        · refine ⟨fun σ' H3 => H3 = H2 ∧ σ' = [some (.str z), some (.ref D), some (.str ⟨(c :: r).toArray⟩), some (.int ((1 + (nameL r).length : Nat) : Int))], ?_, ?_⟩
          · refine ⟨fun m2 σ' H3 => H3 = H2 ∧ ∃ e : Nat, σ' = [some (.str z), some (.ref D), some (.str ⟨(c :: r).toArray⟩), some (.int (e : Nat))] ∧ m2 = r.length + 1 - e ∧ 1 ≤ e ∧ e ≤ 1 + (nameL r).length, ⟨_, rfl, 1, rfl, rfl, by omega, by omega⟩, ?_⟩
            rintro m2 σ' H3 ⟨rfl, e, rfl, rfl, e1, eN⟩
            walk_at "rd"
            refine ⟨lz, ?_⟩
            rw [tl, List.length_cons]
            by_cases c1 : e < r.length + 1
            · rw [decide_eq_true (show (e : Int) < ((r.length + 1 : Nat) : Int) by omega)]
              obtain ⟨ch, hch⟩ : ∃ ch, r[e - 1]? = some ch := ⟨r[e - 1], by rw [List.getElem?_eq_getElem (by omega)]⟩
              have hch2 : (c :: r)[e]? = some ch := by
                rw [show e = (e - 1) + 1 by omega, List.getElem?_cons_succ]
                exact hch
              refine iteT ⟨_, (e : Int), ch, rfl, rfl, lz, (at_ e c1).trans hch2, ch, rfl, ?_⟩
              rw [sgn]
              cases hs : isSign ch with
              | true =>
                have : ¬ e - 1 < (nameL r).length := fun z => by
                  have := tw_in (fun c => !isSign c) r z hch
                  rw [hs] at this
                  cases this
                exact iteF ⟨rfl, by omega⟩
              | false =>
                refine iteT ⟨_, fun _ _ h => h, ?_⟩
                have : e - 1 ≠ (nameL r).length := fun z => by
                  rw [z] at hch
                  have := tw_stop (fun c => !isSign c) r hch
                  rw [hs] at this
                  cases this
                exact ⟨r.length + 1 - (e + 1), by omega, rfl, e + 1, rfl, rfl, by omega, by omega⟩
            · rw [decide_eq_false (show ¬ (e : Int) < ((r.length + 1 : Nat) : Int) by omega)]
              exact iteF (by omega)
          · rintro σ' H3 ⟨rfl, rfl⟩
            walk_at "rd"
            refine ⟨_, rfl, lz, ?_⟩
            rw [cut_name]
            have ev2 := ev
            rw [List.length_cons, votesL_cons, hsg, if_neg (by decide)] at ev2
            have nlt : (⟨(nameL r).toArray⟩ : Str).length < sizeLine := by rw [tl]; omega
            refine ⟨_, .str ⟨(nameL r).toArray⟩, rfl, .str _, nlt, fun hok H4 s4 => ?_, fun hok H4 s4 => k0 .name ?_ H4 (s2.trans s4)⟩
            · have hok : nameZ ⟨(nameL r).toArray⟩ = true := hok
              rw [hok, if_neg (by decide)] at ev2
              have s24 := s2.trans s4
              have e4 := s4 _ _ e2
              have dl : (r.drop (nameL r).length).length ≤ r.length := drop_name r
              have fin : ∀ w : Int, (if c = 43 then (1 : Int) else -1) = w → rSlS (V.str ⟨(c :: r).toArray⟩) (some 1) (some ((1 + (nameL r).length : Nat) : Int)) H4 fun y H3 => ∃ x, DPut H3 D y (V.int w) x ∧ rSlS (V.str ⟨(c :: r).toArray⟩) (some ((1 + (nameL r).length : Nat) : Int)) none x fun x H1 =>
                  ∃ m', m' < r.length + 1 ∧ ∃ l : List Nat, x = V.str ⟨l.toArray⟩ ∧ m' = l.length ∧ l.length ≤ z.length ∧ ∃ x : List (Str × Int), x.length + l.length ≤ z.length ∧ votesL l.length x l = votesR z ∧ Same H H1 ∧ H1 D = some (HO.dK (votesK x)) := fun w hw => by
                refine ⟨_, rfl, lz, ?_⟩
                rw [cut_name]
                refine ⟨_, DPut.k (k := Sum.inr ⟨(nameL r).toArray⟩) e4 (by unfold votesK; rw [List.length_map]; omega), _, rfl, lz, ?_⟩
                rw [cut_rest]
                have pl := putV_length vs ⟨(nameL r).toArray⟩ w
                refine ⟨_, ?_, r.drop (nameL r).length, rfl, rfl, by omega, putV vs ⟨(nameL r).toArray⟩ w, by omega, ?_, s24.over nD, ?_⟩
                · omega
                · rw [← ev2, hw]
                  exact votesL_fuel (Nat.le_refl _) dl
                · rw [upd_same]
                  exact congrArg (fun x => some (HO.dK x)) (putK_votes vs _ w)
              refine ⟨_, 0, c, rfl, rfl, lz, at_ 0 (by omega), rfl, ?_⟩
              have plus : Str.ofString "+" = ⟨#[43]⟩ := by decide +kernel
              by_cases cp : c = 43
              · rw [decide_eq_true (show V.str ⟨#[c]⟩ = V.str (Str.ofString "+") by rw [cp, plus])]
                exact iteT (fin 1 (if_pos cp))
              · rw [decide_eq_false (show ¬ V.str ⟨#[c]⟩ = V.str (Str.ofString "+") from fun z => cp (by
                  rw [plus] at z
                  have := congrArg (fun x : V => match x with | .str s => s.cps.toList | _ => []) z
                  simpa using this))]
                exact iteF (fin (-1) (if_neg cp))
            · have hok : nameZ ⟨(nameL r).toArray⟩ = false := hok
              rw [hok, if_pos rfl] at ev2
              exact ev2.symm
        · rw [← ev, List.length_cons, votesL_cons, hsg, if_pos rfl]
end
end Vw
namespace Vw
open PySem PySem.Spec PyProof.Rows L2
/-! ### deeds keep a wood fine: plain law -/
structure Fine (M : Wd) (m : Nat) : Prop where
  G : Good M
  c0 : 0 ≤ M.came
  vo : VotesOk M
  ro : RowsOk M
  vl : ∀ p ∈ M.rows, p.2.votes.length ≤ m
  cm : M.came ≤ m
  k0 : 0 ≤ M.clock
  km : M.clock ≤ 1000 * m
  tm : ∀ p ∈ M.rows, 0 ≤ p.2.time ∧ p.2.time ≤ M.clock
  vn : ∀ p ∈ M.rows, ∀ v ∈ p.2.votes, nameZ v.1 = true
def actW (M : Wd) (d : Deed) : Wd := match actM M d with
  | .ok (_, M') => M'
  | .error _ => M
def valD : V → PyData
  | .int i => .int i
  | _ => .none
def refD (c : Str) : PyData := .tuple [.str "refused", .str c]
def actD (M : Wd) (d : Deed) : PyData := match actM M d with
  | .ok (v, _) => valD v
  | .error e => refD e.cls
theorem Fine.mono {M : Wd} {m k : Nat} (f : Fine M m) (h : m ≤ k) : Fine M k := ⟨f.G, f.c0, f.vo, f.ro, fun p hp => Nat.le_trans (f.vl p hp) h, by have := f.cm; omega, f.k0, by have := f.km; omega, f.tm, f.vn⟩
theorem ex_map {α β : Type} {x : Except Er α} {g : α → β} {y : β} (h : x.map g = .ok y) : ∃ a, x = .ok a ∧ g a = y := by
  cases x with
  | error e => cases h
  | ok a => exact ⟨a, rfl, by cases h; rfl⟩
theorem Fine.set {M : Wd} {m : Nat} (f : Fine M m) {n : Int} {r r' : Row} (h : findR M.rows n = some r) (hu : r'.under = r.under) (hw : r'.who = r.who) (htm : r'.time = r.time) (ht : (r'.struck = false → textZ r'.text = true) ∧ r'.text.length ≤ 30) (hv : ∀ v ∈ r'.votes, v.2 = 1 ∨ v.2 = -1) (hvn : ∀ v ∈ r'.votes, nameZ v.1 = true) (hl : r'.votes.length ≤ m + 1) : Fine { M with rows := setR M.rows n r' } (m + 1) := by
  have key : ∀ p ∈ setR M.rows n r', p = (n, r') ∨ p ∈ M.rows := fun p hp => (mem_setR hp).elim (fun z => .inl z.1) fun z => .inr z.1
  refine ⟨f.G.set h hu, f.c0, fun p hp => ?_, fun p hp => ?_, fun p hp => ?_, by have := f.cm; show M.came ≤ _; omega, f.k0, by have := f.km; show M.clock ≤ _; omega, fun p hp => ?_, fun p hp => ?_⟩
  · rcases key p hp with rfl | hp
    · exact hv
    · exact f.vo p hp
  · rcases key p hp with rfl | hp
    · exact ⟨by show nameZ r'.who = true; rw [hw]; exact (f.ro _ (findR_mem h)).1, ht⟩
    · exact f.ro p hp
  · rcases key p hp with rfl | hp
    · exact hl
    · exact Nat.le_succ_of_le (f.vl p hp)
  · rcases key p hp with rfl | hp
    · show 0 ≤ r'.time ∧ r'.time ≤ M.clock
      rw [htm]
      exact f.tm _ (findR_mem h)
    · exact f.tm p hp
  · rcases key p hp with rfl | hp
    · exact hvn
    · exact f.vn p hp
theorem gone_sub : ∀ (k : Nat) (rs : Rows) (n : Int), n.toNat ≤ k → ∀ p ∈ (goneR rs n).1, p ∈ rs
  | k, rs, n, hk, p, hp => by
    rw [goneR] at hp
    cases q : findR rs n with
    | none =>
      rw [q] at hp
      exact hp
    | some r =>
      rw [q] at hp
      dsimp only at hp
      split at hp
      · rename_i h
        cases k with
        | zero => omega
        | succ k => exact (List.mem_filter.mp (gone_sub k (dropR rs n) r.under (by omega) p hp)).1
      · exact hp
theorem own_ok {M : Wd} {d b : PyData} {n : Int} {r : Row} (h : ownM M d b = .ok (n, r)) : findR M.rows n = some r ∧ d = .int n := by
  unfold ownM at h
  split at h
  · cases h
  · rename_i n' r' hs
    split at h
    · cases h
    · split at h
      · cases h
        unfold sayingM at hs
        split at hs
        · rename_i k
          split at hs
          · cases q : findR M.rows k with
            | none => rw [q] at hs; cases hs
            | some r' =>
              rw [q] at hs
              cases hs
              exact ⟨q, rfl⟩
          · cases hs
        · cases hs
      · cases h
theorem Fine.act {M M' : Wd} {m : Nat} (f : Fine M m) {d : Deed} (ok : DeedOk d) {v : V} (h : actM M d = .ok (v, M')) : Fine M' (m + 1) := by
  cases d with
  | say n who text =>
    obtain ⟨nw, tw⟩ := ok.who (.inl rfl)
    obtain ⟨⟨k, M1⟩, hs, e⟩ := ex_map h
    cases e
    have hs : sayM M (.str who) (.int n) (.str text) = .ok (k, M1) := hs
    obtain ⟨g1, g2, _⟩ := f.G.say hs f.c0
    have key : ∀ p ∈ M1.rows, p.2 = ⟨who, n, text, M.clock, [], false⟩ ∨ p ∈ M.rows := fun p hp => by
      unfold sayM at hs
      split at hs
      · cases hs
      · split at hs
        · cases hs
        · split at hs
          · cases hs
          · dsimp only at hs
            split at hs
            · cases hs
            · cases hs
              rcases List.mem_append.mp hp with hp | hp
              · exact .inr hp
              · rw [List.mem_singleton.mp hp]
                exact .inl rfl
    have eck : M1.clock = M.clock := by
      unfold sayM at hs
      split at hs
      · cases hs
      · split at hs
        · cases hs
        · split at hs
          · cases hs
          · dsimp only at hs
            split at hs
            · cases hs
            · cases hs
              rfl
    refine ⟨g1, by have := f.c0; rw [g2]; omega, fun p hp => ?_, fun p hp => ?_, fun p hp => ?_, by have := f.cm; rw [g2]; omega, by rw [eck]; exact f.k0, by have := f.km; rw [eck]; omega, fun p hp => ?_, fun p hp => ?_⟩
    all_goals rcases key p hp with e | hp
    · rw [e]
      exact fun v hv => nomatch hv
    · exact f.vo p hp
    · rw [e]
      exact ⟨nw, fun _ => tw, text_len tw⟩
    · exact f.ro p hp
    · rw [e]
      exact Nat.zero_le _
    · exact Nat.le_succ_of_le (f.vl p hp)
    · rw [e, eck]
      exact ⟨f.k0, Int.le_refl _⟩
    · rw [eck]
      exact f.tm p hp
    · rw [e]
      exact fun v hv => nomatch hv
    · exact f.vn p hp
  | tick k who =>
    cases h
    obtain ⟨t0, t1⟩ := ok.tick rfl
    have a0 := f.k0
    have a1 := f.km
    exact ⟨⟨f.G.wf, f.G.le, f.G.dp, f.G.len⟩, f.c0, f.vo, f.ro, fun p hp => Nat.le_succ_of_le (f.vl p hp), by have := f.cm; show M.came ≤ _; omega, by show 0 ≤ M.clock + k; omega, by show M.clock + k ≤ _; omega, fun p hp => by
      have := f.tm p hp
      show _ ∧ _ ≤ M.clock + k
      omega, f.vn⟩
  | change n who text =>
    obtain ⟨nw, tw⟩ := ok.who (.inr rfl)
    obtain ⟨M1, hs, e⟩ := ex_map h
    have e : M1 = M' := by cases e; rfl
    subst e
    clear h
    unfold changeM at hs
    split at hs
    · cases hs
    · rename_i n' r ho
      obtain ⟨hf, _⟩ := own_ok ho
      have hs : (if textZ text = true then Except.ok { M with rows := setR M.rows n' { r with text := text } } else Except.error Er.text) = Except.ok M1 := hs
      rw [if_pos tw] at hs
      cases hs
      exact f.set hf rfl rfl rfl ⟨fun _ => tw, text_len tw⟩ (f.vo _ (findR_mem hf)) (f.vn _ (findR_mem hf)) (Nat.le_succ_of_le (f.vl _ (findR_mem hf)))
  | strike n who =>
    obtain ⟨⟨k, M1⟩, hs, e⟩ := ex_map h
    cases e
    unfold strikeM at hs
    split at hs
    · cases hs
    · rename_i n' r ho
      obtain ⟨hf, _⟩ := own_ok ho
      cases hs
      have fm := f.set (r' := { r with struck := true }) hf rfl rfl rfl ⟨(fun z => by cases z), (f.ro _ (findR_mem hf)).2.2⟩ (f.vo _ (findR_mem hf)) (f.vn _ (findR_mem hf)) (Nat.le_succ_of_le (f.vl _ (findR_mem hf)))
      have sub := gone_sub n'.toNat (setR M.rows n' { r with struck := true }) n' (Nat.le_refl _)
      exact ⟨Good.gone f.G n'.toNat _ n' (Nat.le_refl _) fm.G, f.c0, fun p hp => fm.vo p (sub p hp), fun p hp => fm.ro p (sub p hp), fun p hp => fm.vl p (sub p hp), fm.cm, fm.k0, fm.km, fun p hp => fm.tm p (sub p hp), fun p hp => fm.vn p (sub p hp)⟩
  | vote n who way =>
    obtain ⟨nw, ww⟩ := ok.vote rfl
    obtain ⟨⟨k, M1⟩, hs, e⟩ := ex_map h
    cases e
    unfold voteM at hs
    split at hs
    · cases hs
    · rename_i n' r ho
      have hf : findR M.rows n' = some r := by
        rw [sayingG f.G] at ho
        cases q : findR M.rows n with
        | none => rw [q] at ho; cases ho
        | some r' =>
          rw [q] at ho
          cases ho
          exact q
      split at hs
      · cases hs
      · split at hs
        · cases hs
        · dsimp only at hs
          split at hs
          · cases hs
          · cases hs
            have old := f.vo _ (findR_mem hf)
            refine f.set hf rfl rfl rfl (f.ro _ (findR_mem hf)).2 (fun v hv => ?_) (fun v hv => ?_) ?_
            · have hv : v ∈ votesM r.votes who way := hv
              unfold votesM at hv
              dsimp only at hv
              split at hv
              · exact old v (List.mem_filter.mp hv).1
              · rename_i w0
                rcases List.mem_append.mp hv with hv | hv
                · exact old v (List.mem_filter.mp hv).1
                · cases List.mem_singleton.mp hv
                  show way = 1 ∨ way = -1
                  omega
            · have oldn := f.vn _ (findR_mem hf)
              have hv : v ∈ votesM r.votes who way := hv
              unfold votesM at hv
              dsimp only at hv
              split at hv
              · exact oldn v (List.mem_filter.mp hv).1
              · rcases List.mem_append.mp hv with hv | hv
                · exact oldn v (List.mem_filter.mp hv).1
                · cases List.mem_singleton.mp hv
                  exact nw
            · show (votesM r.votes who way).length ≤ m + 1
              have l0 : (r.votes.filter fun p => decide (p.1 ≠ who)).length ≤ r.votes.length := List.length_filter_le _ _
              have l1 : r.votes.length ≤ m := f.vl _ (findR_mem hf)
              unfold votesM
              dsimp only
              split
              · omega
              · rw [List.length_append, List.length_singleton]
                omega
theorem Fine.actW {M : Wd} {m : Nat} (f : Fine M m) {d : Deed} (ok : DeedOk d) : Fine (actW M d) (m + 1) := by
  unfold Vw.actW
  split
  · rename_i h
    exact f.act ok h
  · exact f.mono (Nat.le_succ _)
theorem act_val {M M' : Wd} {d : Deed} {v : V} (h : actM M d = .ok (v, M')) : v = .non ∨ ∃ i, v = .int i := by
  cases d with
  | tick k who => cases h; exact .inl rfl
  | change n who text =>
    obtain ⟨_, _, e⟩ := ex_map h
    cases e
    exact .inl rfl
  | _ =>
    obtain ⟨_, _, e⟩ := ex_map h
    cases e
    exact .inr ⟨_, rfl⟩
theorem shaped_act (M : Wd) (d : Deed) : SeqAt.shaped (actD M d) = true := by
  unfold actD
  split
  · rename_i h
    rcases act_val h with rfl | ⟨i, rfl⟩ <;> rfl
  · rename_i e h
    cases e <;> decide +kernel
theorem eqv_act (M : Wd) (d : Deed) : PyData.eqv (actD M d) (actD M d) = true := by
  unfold actD
  split
  · rename_i h
    rcases act_val h with rfl | ⟨i, rfl⟩
    · rfl
    · show PyData.eqv (.int i) (.int i) = true
      rw [eqv_int]
      exact decide_eq_true rfl
  · simp [refD, PyData.eqv, PyData.eqvAll]
/-! ### both woods, apart -/
structure Pair (K : PySem.W.Frag) (H : Hp) (L : Lay) (O : OLay) : Prop where
  W : WoodAt K H L
  B : OwnAt H O
  ap : ∀ b ∈ foot L, b ∉ footO O
structure JStep (H : Hp) (L : Lay) (O : OLay) (H' : Hp) (L' : Lay) (O' : OLay) : Prop where
  p : L'.p = L.p
  q : O'.p = O.p
  keep : ∀ b o, b ∉ foot L → b ∉ footO O → H b = some o → (∀ ps, o ≠ .tbl ps) → H' b = some o
  new : ∀ b, b ∈ foot L' ∨ b ∈ footO O' → b ∈ foot L ∨ b ∈ footO O ∨ ∀ o, H b = some o → ∃ ps, o = .tbl ps
theorem JStep.ext {H H' : Hp} {L : Lay} {O : OLay} (s : LamX.ExtN H H') : JStep H L O H' L O := ⟨rfl, rfl, fun b o _ _ e n => s b o e n, fun b hb => hb.elim .inl fun z => .inr (.inl z)⟩
theorem JStep.same {H H' : Hp} {L : Lay} {O : OLay} (s : Same H H') : JStep H L O H' L O := JStep.ext (LamX.ExtN.of s)
theorem JStep.trans {H H1 H2 : Hp} {L L1 L2 : Lay} {O O1 O2 : OLay} (a : JStep H L O H1 L1 O1) (b : JStep H1 L1 O1 H2 L2 O2) : JStep H L O H2 L2 O2 := by
  have out : ∀ {c o}, c ∉ foot L → c ∉ footO O → H c = some o → (∀ ps, o ≠ .tbl ps) → ¬ (c ∈ foot L1 ∨ c ∈ footO O1) := fun {c o} h1 h2 e n h => by
    rcases a.new c h with z | z | z
    · exact h1 z
    · exact h2 z
    · obtain ⟨ps, q⟩ := z o e
      exact n ps q
  refine ⟨b.p.trans a.p, b.q.trans a.q, fun c o h1 h2 e n => b.keep c o (fun z => out h1 h2 e n (.inl z)) (fun z => out h1 h2 e n (.inr z)) (a.keep c o h1 h2 e n) n, fun c hc => ?_⟩
  rcases b.new c hc with z | z | z
  · exact a.new c (.inl z)
  · exact a.new c (.inr z)
  · by_cases h1 : c ∈ foot L
    · exact .inl h1
    · by_cases h2 : c ∈ footO O
      · exact .inr (.inl h2)
      · refine .inr (.inr fun o e => ?_)
        by_cases n : ∃ ps, o = .tbl ps
        · exact n
        · exact z o (a.keep c o h1 h2 e fun ps q => n ⟨ps, q⟩)
theorem footO_obj {H : Hp} {O : OLay} (B : OwnAt H O) {b : Addr} (hb : b ∈ footO O) : ∃ k, H b = some (.dK k) := by
  have q : b = O.p ∨ b = O.d ∨ b ∈ O.ents.map (·.a) ∨ b ∈ O.ents.map (·.v) := by
    unfold footO at hb
    simpa only [List.mem_cons, List.mem_append] using hb
  rcases q with rfl | rfl | q | q
  · exact ⟨_, B.rd.top⟩
  · exact ⟨_, B.dic⟩
  · obtain ⟨e, he, rfl⟩ := List.mem_map.mp q
    exact ⟨_, B.rd.row e he⟩
  · obtain ⟨e, he, rfl⟩ := List.mem_map.mp q
    exact ⟨_, B.rd.vot e he⟩
theorem foot_live {K : PySem.W.Frag} {H : Hp} {L : Lay} (W : WoodAt K H L) {b : Addr} (hb : b ∈ foot L) : ∃ o, H b = some o ∧ IsP o := by
  have q : b = L.p ∨ b = L.d ∨ b ∈ L.ents.map (·.a) ∨ b ∈ L.ents.map (·.v) := by
    unfold foot at hb
    simpa only [List.mem_cons, List.mem_append] using hb
  rcases q with rfl | rfl | q | q
  · exact ⟨_, W.top, .inl ⟨_, _, _, rfl⟩⟩
  · exact ⟨_, W.dic, .inr ⟨_, rfl⟩⟩
  · obtain ⟨e, he, rfl⟩ := List.mem_map.mp q
    exact ⟨_, (W.say e he).o, .inl ⟨_, _, _, rfl⟩⟩
  · obtain ⟨e, he, rfl⟩ := List.mem_map.mp q
    exact ⟨_, (W.say e he).d, .inr ⟨_, rfl⟩⟩
theorem OwnAt.wk {H H' : Hp} {O : OLay} (B : OwnAt H O) (s : ∀ b o, b ∈ footO O → H b = some o → H' b = some o) : OwnAt H' O := by
  have p : O.p ∈ footO O := List.mem_cons_self
  have d : O.d ∈ footO O := List.mem_cons_of_mem _ List.mem_cons_self
  have a : ∀ e ∈ O.ents, e.a ∈ footO O := fun e he => List.mem_cons_of_mem _ (List.mem_cons_of_mem _ (mem_foO_a he))
  have v : ∀ e ∈ O.ents, e.v ∈ footO O := fun e he => List.mem_cons_of_mem _ (List.mem_cons_of_mem _ (mem_foO_v he))
  exact ⟨⟨s _ _ p B.rd.top, .inl (s _ _ d B.dic), fun e he => s _ _ (a e he) (B.rd.row e he), fun e he => s _ _ (v e he) (B.rd.vot e he), B.rd.nk, B.rd.ndv, B.rd.sz, B.rd.vsz⟩, s _ _ d B.dic, B.nd⟩
theorem WoodAt.wkF {K : PySem.W.Frag} {H H' : Hp} {L : Lay} (W : WoodAt K H L) (s : ∀ b o, b ∈ foot L → H b = some o → H' b = some o) : WoodAt K H' L := by
  have p : L.p ∈ foot L := List.mem_cons_self
  have d : L.d ∈ foot L := List.mem_cons_of_mem _ List.mem_cons_self
  exact ⟨s _ _ p W.top, s _ _ d W.dic, fun e he => ⟨s _ _ (mem_foot_a he) (W.say e he).o, s _ _ (mem_foot_v he) (W.say e he).d, (W.say e he).nd, (W.say e he).sz⟩, W.nk, W.nda, W.ndv, W.dv, W.pa, W.sz⟩
theorem Pair.ext {K : PySem.W.Frag} {H H' : Hp} {L : Lay} {O : OLay} (P : Pair K H L O) (s : LamX.ExtN H H') : Pair K H' L O :=
  ⟨P.W.ext s, P.B.wk (fun b o hb e => s b o e fun ps z => by
    obtain ⟨k, hk⟩ := footO_obj P.B hb
    rw [e, z] at hk
    cases hk), P.ap⟩
theorem Pair.same {K : PySem.W.Frag} {H H' : Hp} {L : Lay} {O : OLay} (P : Pair K H L O) (s : Same H H') : Pair K H' L O := P.ext (LamX.ExtN.of s)
theorem isP_not_tbl {o : HO} (h : IsP o) : ∀ ps, o ≠ .tbl ps := fun ps z => by
  rw [z] at h
  exact not_tbl _ h
/-- lists, tuples and their like stay -/
theorem JStep.lk {K : PySem.W.Frag} {H H' : Hp} {L L' : Lay} {O O' : OLay} (J : JStep H L O H' L' O') (P : Pair K H L O) : LK H H' := fun b o h n m => by
  refine J.keep b o (fun hb => n (foot_obj P.W hb h)) (fun hb => ?_) h m
  obtain ⟨k, hk⟩ := footO_obj P.B hb
  rw [h] at hk
  cases hk
  exact n (.inr ⟨_, rfl⟩)
mutual
theorem dp_lk {K : PySem.W.Frag} {H H' : Hp} (s : LK H H') : ∀ {x : V} {d : PyData}, Dp K H x d → Dp K H' x d
  | _, _, .non => .non
  | _, _, .bl b => .bl b
  | _, _, .int i => .int i
  | _, _, .str z => .str z
  | _, _, .lst hs h => .lst (s.seq hs) (dps_lk s h)
  | _, _, .tup hs h => .tup (by
      rcases hs with (h | ⟨o, h⟩) | h
      · exact .inl (.inl (s.tup h))
      · exact .inl (.inr ⟨o, s _ _ h (not_frz _ _) (by intro t z; cases z)⟩)
      · exact .inr h) (dps_lk s h)
theorem dps_lk {K : PySem.W.Frag} {H H' : Hp} (s : LK H H') : ∀ {xs : List V} {ds : List PyData}, DpAll K H xs ds → DpAll K H' xs ds
  | _, _, .nil => .nil
  | _, _, .cons h t => .cons (dp_lk s h) (dps_lk s t)
end
theorem LK.sqt {K : PySem.W.Frag} {H H' : Hp} {a : Addr} {xs : List V} (k : LK H H') (h : SqT K H a xs) : SqT K H' a xs := by
  rcases h with (h | ⟨o, h⟩) | h
  · exact .inl (.inl (k.tup h))
  · exact .inl (.inr ⟨o, k _ _ h (not_frz _ _) (by intro t z; cases z)⟩)
  · exact .inr h
section
variable {K : PySem.W.Frag} {H : Hp} {L : Lay} {O : OLay} {Q : VK} {E : XK} {d : Deed} {p : Addr} {m : Nat}
theorem Fine.ents {L : Lay} {m : Nat} (f : Fine L.wd m) (hm : m ≤ 9000) : ∀ e ∈ L.ents, e.row.votes.length < 9999 := fun e he => by
  have := f.vl (e.n, e.row) (List.mem_map.mpr ⟨e, he, rfl⟩)
  have : e.row.votes.length ≤ m := this
  omega
theorem Fine.entsO {O : OLay} {m : Nat} (f : Fine O.wd m) (hm : m ≤ 9000) : ∀ e ∈ O.ents, e.row.votes.length < 9999 := fun e he => by
  have := f.vl (e.n, e.row) (List.mem_map.mpr ⟨e, he, rfl⟩)
  have : e.row.votes.length ≤ m := this
  omega
theorem use_do (P : Pair K H L O) (f : Fine L.wd m) (hm : m ≤ 9000) (ok : DeedOk d) (hp : SqT K H p d.tup) (hT : LamX.Tabs (tabs K) H)
    (k : ∀ v H' L', Pair K H' L' O → L'.wd = actW L.wd d → JStep H L O H' L' O → LamX.Tabs (tabs K) H' → Dp K H' v (actD L.wd d) → Q v H') : spDo K [.ref L.p, .ref p] H Q E := by
  refine ⟨L, p, d, rfl, hp, P.W, f.G, f.G.l64, ok, f.ents hm, hT, fun v M h H' L' W' e' S T' => ?_, fun e h r H' x T' hr => ?_⟩
  · refine k v H' L' ⟨W', P.B.wk fun b o hb e => S.keep b o (fun z => P.ap b z hb) e fun ps z => ?_, fun b hb hO => ?_⟩ ?_ ⟨S.p, rfl, fun b o h1 _ e n => S.keep b o h1 e n, fun b hb => ?_⟩ T' ?_
    · obtain ⟨k, hk⟩ := footO_obj P.B hb
      rw [e, z] at hk
      cases hk
    · obtain ⟨k, hk⟩ := footO_obj P.B hO
      rcases S.new b hb with z | z
      · exact P.ap b z hO
      · obtain ⟨ps, q⟩ := z _ hk
        cases q
    · rw [e']
      unfold actW
      rw [h]
    · rcases hb with hb | hb
      · rcases S.new b hb with z | z
        · exact .inl z
        · exact .inr (.inr z)
      · exact .inr (.inl hb)
    · unfold actD
      rw [h]
      rcases act_val h with rfl | ⟨i, rfl⟩
      · exact .non
      · exact .int i
  · refine k (.ref r) H' L (P.ext x) ?_ (JStep.ext x) T' ?_
    · unfold actW
      rw [h]
    · unfold actD
      rw [h]
      exact dp_refu hr
theorem use_act (P : Pair K H L O) (f : Fine O.wd m) (hm : m ≤ 9000) (ok : DeedOk d) (hp : SqT K H p d.tup)
    (k : ∀ v H' O', Pair K H' L O' → O'.wd = actW O.wd d → JStep H L O H' L O' → (LamX.Tabs (tabs K) H → LamX.Tabs (tabs K) H') → Dp K H' v (actD O.wd d) → Q v H') : spAct K [.ref O.p, .ref p] H Q E := by
  refine ⟨O, p, d, rfl, hp, P.B, f.G, ok, f.vo, f.entsO hm, fun v M h H' O' B' e' S => ?_, fun e h r H' n s hr => ?_⟩
  · refine k v H' O' ⟨P.W.wkF fun b o hb e => S.keep b o (fun z => P.ap b hb z) e, B', fun b hb hO => ?_⟩ ?_ ⟨rfl, S.p, fun b o _ h2 e n => S.keep b o h2 e, fun b hb => ?_⟩ (fun T' => ?_) ?_
    · obtain ⟨o, ho, _⟩ := foot_live P.W hb
      rcases S.new b hO with z | z
      · exact P.ap b hb z
      · rw [z] at ho
        cases ho
    · rw [e']
      unfold actW
      rw [h]
    · rcases hb with hb | hb
      · exact .inl hb
      · rcases S.new b hb with z | z
        · exact .inr (.inl z)
        · exact .inr (.inr fun o e => by rw [z] at e; cases e)
    · refine K2.tabs (fun b o e n => S.keep b o (fun z => ?_) e) T'
      obtain ⟨k, hk⟩ := footO_obj P.B z
      rw [e] at hk
      cases hk
      exact n (.inr ⟨_, rfl⟩)
    · unfold actD
      rw [h]
      rcases act_val h with rfl | ⟨i, rfl⟩
      · exact .non
      · exact .int i
  · refine k (.ref r) H' O (P.same s) ?_ (JStep.same s) (fun T' => T'.ext s) ?_
    · unfold actW
      rw [h]
    · unfold actD
      rw [h]
      exact dp_refu hr
/-- do, then act: they tell the same -/
theorem use_do_act (P : Pair K H L O) (e : L.wd = O.wd) (f : Fine L.wd m) (hm : m ≤ 9000) (ok : DeedOk d) (hp : SqT K H p d.tup) (hT : LamX.Tabs (tabs K) H)
    (k : ∀ H' L' O', Pair K H' L' O' → L'.wd = actW L.wd d → O'.wd = actW L.wd d → JStep H L O H' L' O' → LamX.Tabs (tabs K) H' → Q (.bl false) H') :
    spDo K [.ref L.p, .ref p] H (fun v H1 => spAct K [.ref O.p, .ref p] H1 (fun u H2 => rNeD K v u H2 Q) E) E := by
  refine use_do P f hm ok hp hT fun v H1 L1 P1 w1 J1 T1 d1 => ?_
  refine use_act P1 (e ▸ f) hm ok ((J1.lk P).sqt hp) fun u H2 O2 P2 w2 J2 T2 d2 => ?_
  rw [← e] at w2 d2
  refine use_neD (dp_lk (J2.lk P1) d1) d2 (shaped_act _ _) (shaped_act _ _) ?_
  rw [eqv_act]
  exact k H2 L1 O2 P2 w1 w2 (J1.trans J2) (T2 T1)
end
theorem act_nb (M : Wd) (d : Deed) (b : Bool) : actD M d ≠ .bool b := by
  unfold actD
  split
  · rename_i h
    rcases act_val h with rfl | ⟨i, rfl⟩ <;> (intro z; cases z)
  · intro z
    cases z
theorem new_pair {K : PySem.W.Frag} {H3 H4 : Hp} {p dx d po do_ : Addr} (W3 : WoodAt K H3 ⟨p, dx, d, [], 0, 0⟩) (np : H3 po = none) (nd : H3 do_ = none) (s4 : Same H3 H4) (B4 : OwnAt H4 ⟨po, do_, [], 0, 0⟩) : Pair K H4 ⟨p, dx, d, [], 0, 0⟩ ⟨po, do_, [], 0, 0⟩ := by
  refine ⟨W3.same s4, B4, fun b hb hO => ?_⟩
  obtain ⟨o, ho, _⟩ := foot_live W3 hb
  have q : b = po ∨ b = do_ := by
    have hO : b ∈ [po, do_] := hO
    simpa using hO
  rcases q with rfl | rfl
  · rw [np] at ho
    cases ho
  · rw [nd] at ho
    cases ho
theorem fine0 : Fine ⟨[], 0, 0⟩ 0 := by
  refine ⟨⟨⟨List.Pairwise.nil, ?_, ?_, ?_, ?_⟩, ?_, ?_, by decide⟩, Int.le_refl _, ?_, ?_, ?_, Int.le_refl _, Int.le_refl _, Int.le_refl _, ?_, ?_⟩
  all_goals intro p hp; cases hp
/-- a wood and the law's own, alike, behind m deeds -/
def Jn (K : PySem.W.Frag) (H : Hp) (pw po : Addr) (m : Nat) : Prop := ∃ (L : Lay) (O : OLay), L.p = pw ∧ O.p = po ∧ Pair K H L O ∧ L.wd = O.wd ∧ Fine L.wd m
theorem Jn.same {K : PySem.W.Frag} {H H' : Hp} {pw po : Addr} {m : Nat} (j : Jn K H pw po m) (s : Same H H') : Jn K H' pw po m := by
  obtain ⟨L, O, a, b, P, e, f⟩ := j
  exact ⟨L, O, a, b, P.same s, e, f⟩
theorem Fine.names {L : Lay} {O : OLay} {m : Nat} (f : Fine L.wd m) (e : L.wd = O.wd) : NamesOk O := fun x hx => by
  have h : (x.n, x.row) ∈ L.wd.rows := by
    rw [e]
    exact List.mem_map.mpr ⟨x, hx, rfl⟩
  exact (f.ro _ h).1
end Vw
namespace Vw
open PySem PySem.Spec PyProof.Rows L2
/-! ### loops over lists of any data; what is refused -/
theorem dps_get {K : PySem.W.Frag} {H : Hp} : ∀ {xs : List V} {ds : List PyData} {i : Nat} {x : V}, DpAll K H xs ds → xs[i]? = some x → ∃ d, ds[i]? = some d ∧ Dp K H x d
  | _, _, i, x, .nil, h => by simp at h
  | _, _, 0, x, .cons a t, h => by
    cases h
    exact ⟨_, rfl, a⟩
  | _, _, i + 1, x, .cons a t, h => by
    obtain ⟨d, h1, h2⟩ := dps_get (i := i) t (by simpa using h)
    exact ⟨d, by simpa using h1, h2⟩
theorem dps_len {K : PySem.W.Frag} {H : Hp} : ∀ {xs : List V} {ds : List PyData}, DpAll K H xs ds → xs.length = ds.length
  | _, _, .nil => rfl
  | _, _, .cons a t => by
    have := dps_len t
    simp [this]
theorem forD2 {K : PySem.W.Frag} {te0 : TE} {g : TG} {tb : TS} {D : Ends} {σ : L2.St} {H : Hp} (ds : List PyData) (src : ∀ R : VK, (∀ p H1 xs, Same H H1 → SqL K H1 p xs → DpAll K H1 xs ds → R (.ref p) H1) → te0 σ H R)
    (Pv : Nat → L2.St → Hp → Prop) (h0 : ∀ H1, Same H H1 → Pv 0 σ H1)
    (hs : ∀ i d x σ' H' (D' : Ends), ds[i]? = some d → Dp K H' x d → Pv i σ' H' → (∀ σ2 H2, Pv (i + 1) σ2 H2 → LK H' H2 → D'.nx σ2 H2) → (∀ σ2 H2, Pv (i + 1) σ2 H2 → LK H' H2 → D'.ct σ2 H2) → D'.rt = D.rt → D'.bk = D.nx → g x σ' H' fun σ2 H2 => tb D' σ2 H2)
    (hd : ∀ σ' H', Pv ds.length σ' H' → D.nx σ' H') : tFor (iList K te0) g tb D σ H := by
  refine src _ fun p H1 xs s1 hp hx => ⟨p, rfl, ⟨_, hp⟩, ?_⟩
  have ln := dps_len hx
  have w : Walk (Itl K p) xs.length (fun H => SqL K H p xs) (YAt xs) := walk_list (K := K) (a := p) (xs := xs)
  refine for_it w (fun i σ' H' => Pv i σ' H' ∧ SqL K H' p xs ∧ DpAll K H' xs ds) ⟨h0 H1 s1, hp, hx⟩ (fun i σ' H' _ h => h.2.1) (fun i x σ' H2 H3 hi p1 y => ?_) (fun σ' H' h => hd σ' H' (ln ▸ h.1))
  obtain ⟨rfl, hx2⟩ := y
  obtain ⟨d, h1, h2⟩ := dps_get p1.2.2 hx2
  exact hs i d x σ' _ _ h1 h2 p1.1 (fun σ2 H2 a b => ⟨a, b.seq p1.2.1, dps_lk b p1.2.2⟩) (fun σ2 H2 a b => ⟨a, b.seq p1.2.1, dps_lk b p1.2.2⟩) rfl rfl
section
variable {K : PySem.W.Frag} {H : Hp} {Q : VK} {e : Er}
theorem told_bad (h : e.cls ∈ errs) (q : ∀ r H', Same H H' → H' r = some (.tup [.str "refused", .str e.cls]) → Q (.ref r) H') : Bad K (eTold K errs Q) e H := ⟨e.cls, h, rfl, rfl, fun r H' n s hr => q r H' s hr⟩
theorem refu_ne {x : Str} {r r2 : Addr} (h1 : H r = some (.tup [.str "refused", .str x])) (h2 : H r2 = some (.tup [.str "refused", .str x])) (q : Q (.bl false) H) (hx : PyData.strOk x = true := by decide +kernel) : rNeD K (.ref r) (.ref r2) H Q := by
  have sh : SeqAt.shaped (.tuple [.str "refused", .str x]) = true := by
    have h0 : PyData.strOk "refused" = true := by decide +kernel
    simp [SeqAt.shaped, PyData.canLay0, PyData.canLayAll0, PyData.depth, PyData.depthAll, hx, h0]
  refine use_neD (dp_refu h1) (dp_refu h2) sh sh ?_
  have e : PyData.eqv (.tuple [.str "refused", .str x]) (.tuple [.str "refused", .str x]) = true := by simp [PyData.eqv, PyData.eqvAll]
  rw [e]
  exact q
end
end Vw
namespace Vw
open PySem PySem.Spec PyProof.Rows L2
/-! ### uses where a wood refuses -/
section
variable {K : PySem.W.Frag} {H : Hp} {L : Lay} {Q : VK} {E : XK} {x y z : V} {d b t : PyData} {e : Er}
theorem use_changeE (W : WoodAt K H L) (hx : Dp K H x d) (hy : Dp K H y b) (hz : Dp K H z t) (sb : Short b) (st : Short t) (h : changeM L.wd d b t = .error e) (q : ∀ H', Same H H' → Bad K E e H') : spChange K [.ref L.p, x, y, z] H Q E :=
  ⟨L, x, y, z, d, b, t, rfl, W, hx, hy, hz, sb, st, ⟨(fun M z => by rw [h] at z; cases z), fun e' z => by rw [h] at z; cases z; exact q⟩⟩
theorem use_strikeE (W : WoodAt K H L) (G : Good L.wd) (hx : Dp K H x d) (hy : Dp K H y b) (sb : Short b) (h : strikeM L.wd d b = .error e) (q : ∀ H', Same H H' → Bad K E e H') : spStrike K [.ref L.p, x, y] H Q E :=
  ⟨L, x, y, d, b, rfl, W, G.wf, G.l64, hx, hy, sb, (fun m M z => by rw [h] at z; cases z), fun e' z => by rw [h] at z; cases z; exact q⟩
theorem use_voteE (W : WoodAt K H L) (vl : ∀ e ∈ L.ents, e.row.votes.length < 99999) (hx : Dp K H x d) (hy : Dp K H y b) (hz : Dp K H z t) (sb : Short b) (h : voteM L.wd d b t = .error e) (q : ∀ H', Same H H' → Bad K E e H') : spVote K [.ref L.p, x, y, z] H Q E :=
  ⟨L, x, y, z, d, b, t, rfl, W, hx, hy, hz, sb, vl, (fun p M z => by rw [h] at z; cases z), fun e' z => by rw [h] at z; cases z; exact q⟩
theorem use_sayE (W : WoodAt K H L) (G : Good L.wd) (hx : Dp K H x b) (hy : Dp K H y d) (hz : Dp K H z t) (sb : Short b) (sd : SeqAt.shaped d = true) (st : Short t) (h : sayM L.wd b d t = .error e) (q : ∀ H', Same H H' → Bad K E e H') : spSay K [.ref L.p, x, y, z] H Q E :=
  ⟨L, x, y, z, b, d, t, rfl, W, G.wf, G.le, hx, hy, hz, sb, sd, st, (fun p M z => by rw [h] at z; cases z), fun e' z => by rw [h] at z; cases z; exact q⟩
theorem says_none (h : sayingM L.wd d = none) : sayingD L d = none := by
  rw [sayingME] at h
  cases q : sayingD L d with
  | none => rfl
  | some e => rw [q] at h; cases h
theorem use_lookE (W : WoodAt K H L) (hx : Dp K H x d) (h : sayingM L.wd d = none) (q : Bad K E .no H) : spLook K [.ref L.p, x] H Q E :=
  ⟨L, x, d, rfl, W, hx, (fun e he => by rw [says_none h] at he; cases he), fun _ => q⟩
theorem use_votesOfE (W : WoodAt K H L) (hx : Dp K H x d) (h : sayingM L.wd d = none) (q : Bad K E .no H) : spVotesOf K [.ref L.p, x] H Q E :=
  ⟨L, x, d, rfl, W, hx, (fun e he => by rw [says_none h] at he; cases he), fun _ => q⟩
theorem use_belowE (W : WoodAt K H L) (G : Good L.wd) (hx : Dp K H x d) (sd : SeqAt.shaped d = true) (h : underOk L.wd d = false) (q : Bad K E .no H) : spBelow K 8 [.ref L.p, x] H Q E :=
  ⟨L, x, d, rfl, W, G, hx, sd, fun _ _ => by omega, fun _ => q, fun n e z => by rw [h] at z; cases z⟩
theorem use_manyE (W : WoodAt K H L) (G : Good L.wd) (hx : Dp K H x d) (sd : SeqAt.shaped d = true) (h : underOk L.wd d = false) (q : Bad K E .no H) : spMany K [.ref L.p, x] H Q E :=
  ⟨L, x, d, rfl, W, G, hx, sd, fun _ => q, fun n e z => by rw [h] at z; cases z⟩
theorem use_standingE (W : WoodAt K H L) (hx : Dp K H x d) (sd : Short d) (h : nameOk d = false) (q : ∀ H', Same H H' → Bad K E .name H') : spStanding K [.ref L.p, x] H Q E :=
  ⟨L, x, d, rfl, W, hx, sd, fun _ => q, fun z e n => by rw [h] at n; cases n⟩
theorem use_tickE (W : WoodAt K H L) (hx : Dp K H x d) (h : isCount d 0 1000 = false) (q : Bad K E .number H) : spTick K [.ref L.p, x] H Q E :=
  ⟨L, x, d, rfl, W, hx, (fun n e z => by rw [h] at z; cases z), fun _ => q⟩
end
/-! ### a list of what was told -/
structure Sm (K : PySem.W.Frag) (H0 H : Hp) (L : Lay) (sl : Addr) (c : Str) (rs : List Addr) : Prop where
  x : LamX.ExtN H0 H
  n : ∀ o, H0 sl = some o → ∃ ps, o = .tbl ps
  W : WoodAt K H L
  T : LamX.Tabs (tabs K) H
  l : H sl = some (.lst (rs.map V.ref))
  t : ∀ r ∈ rs, H r = some (.tup [.str "refused", .str c])
theorem Sm.ext {K : PySem.W.Frag} {H0 H H' : Hp} {L : Lay} {sl : Addr} {c : Str} {rs : List Addr} (S : Sm K H0 H L sl c rs) (x : LamX.ExtN H H') (T : LamX.Tabs (tabs K) H') : Sm K H0 H' L sl c rs :=
  ⟨S.x.trans x, S.n, S.W.ext x, T, (LK.ext x).lst S.l, fun r hr => (LK.ext x).tup (S.t r hr)⟩
theorem Sm.ty {K : PySem.W.Frag} {H0 H : Hp} {L : Lay} {sl : Addr} {c : Str} {rs : List Addr} (S : Sm K H0 H L sl c rs) : tyV K "list" (V.ref sl) H := .inl ⟨rfl, _, SqL.of S.l⟩
theorem not_code_lst {xs : List V} : ∀ c q, HO.lst xs ≠ LamX.CodeO c q := by
  intro c q z
  unfold LamX.CodeO at z
  cases z
theorem WoodAt.updL {K : PySem.W.Frag} {H : Hp} {L : Lay} {d : Addr} {o : HO} {k : List V} (W : WoodAt K H L) (hd : H d = some (.lst k)) : WoodAt K (upd H d o) L := W.wk fun b u h p => by
  rw [upd_ne (fun z => by rw [z, hd] at h; cases h; exact not_lst _ p)]
  exact h
theorem upd_tabsL {T : List (Addr × Str)} {H : Hp} {d : Addr} {o : HO} {k : List V} (t : LamX.Tabs T H) (hd : H d = some (.lst k)) : LamX.Tabs T (upd H d o) := upd_tabs t hd (by intro ps z; cases z) not_code_lst
/-- some.append(told) -/
theorem Sm.app {K : PySem.W.Frag} {H0 H H' : Hp} {L : Lay} {sl r : Addr} {c : Str} {rs : List Addr} {Q : VK} (S : Sm K H0 H L sl c rs) (s : Same H H') (e : H' r = some (.tup [.str "refused", .str c])) (hl : rs.length < 100) (q : ∀ H2, Sm K H0 H2 L sl c (rs ++ [r]) → Q .non H2) : rAppend (.ref sl) [.ref r] H' Q := by
  have S' := S.ext (LamX.ExtN.of s) (S.T.ext s)
  have hne : ∀ {c : Addr} {xs : List V}, H' c = some (.tup xs) → c ≠ sl := fun {c xs} hc z => by
    rw [z, S'.l] at hc
    cases hc
  refine ⟨sl, _, _, rfl, rfl, S'.l, by rw [List.length_map, sizeLine_eq]; omega, q _ ⟨fun b o h n => ?_, S.n, S'.W.updL S'.l, upd_tabsL S'.T S'.l, ?_, fun r' hr' => ?_⟩⟩
  · rw [upd_ne (fun z => ?_)]
    · exact S'.x b o h n
    · rw [z] at h
      obtain ⟨ps, e⟩ := S.n o h
      exact n ps e
  · rw [upd_same, List.map_append]
    rfl
  · rcases List.mem_append.mp hr' with hr' | hr'
    · rw [upd_ne (hne (S'.t r' hr'))]
      exact S'.t r' hr'
    · rw [List.mem_singleton.mp hr', upd_ne (hne e)]
      exact e
theorem dps_refs {K : PySem.W.Frag} {H : Hp} {c : Str} : ∀ {rs : List Addr}, (∀ r ∈ rs, H r = some (.tup [.str "refused", .str c])) → DpAll K H (rs.map V.ref) (List.replicate rs.length (refD c))
  | [], _ => .nil
  | r :: t, h => .cons (dp_refu (h r List.mem_cons_self)) (dps_refs fun r hr => h r (List.mem_cons_of_mem _ hr))
theorem eqv_refs (c : Str) : ∀ n, PyData.eqvAll (List.replicate n (refD c)) (List.replicate n (refD c)) = true
  | 0 => by simp [PyData.eqvAll]
  | n + 1 => by
    rw [List.replicate_succ]
    simp [PyData.eqvAll, refD, PyData.eqv]
    exact eqv_refs c n
theorem shaped_refs {c : Str} (hx : PyData.strOk c = true) (n : Nat) : SeqAt.shaped (.list (List.replicate n (refD c))) = true := by
  have h0 : PyData.strOk "refused" = true := by decide +kernel
  have a : ∀ n, PyData.canLayAll0 (List.replicate n (refD c)) = true := fun n => by
    induction n with
    | zero => rfl
    | succ n ih => rw [List.replicate_succ]; simp [PyData.canLayAll0, refD, PyData.canLay0, hx, h0]; exact ih
  have b : ∀ n, PyData.depthAll (List.replicate n (refD c)) ≤ 5 := fun n => by
    induction n with
    | zero => exact Nat.zero_le _
    | succ n ih =>
      rw [List.replicate_succ]
      have : PyData.depth (refD c) ≤ 5 := by simp [refD, PyData.depth, PyData.depthAll]
      simp only [PyData.depthAll]
      omega
  have := b n
  simp [SeqAt.shaped, PyData.canLay0, PyData.depth, a n]
  omega
section
variable {K : PySem.W.Frag} {H0 H H' : Hp} {L : Lay} {sl t l : Addr} {c : Str} {rs : List Addr} {Q : VK} {k : Int}
theorem flat_rep {α : Type} (a : α) : ∀ n : Nat, (List.replicate n [a]).flatten = List.replicate n a
  | 0 => rfl
  | n + 1 => by rw [List.replicate_succ, List.flatten_cons, flat_rep a n, List.replicate_succ]; rfl
theorem dps_rep {x : V} {d : PyData} (h : Dp K H x d) : ∀ n, DpAll K H (List.replicate n x) (List.replicate n d)
  | 0 => .nil
  | n + 1 => by
    rw [List.replicate_succ, List.replicate_succ]
    exact .cons h (dps_rep h n)
theorem Sm.dp (S : Sm K H0 H L sl c rs) (s : Same H H') : Dp K H' (.ref sl) (.list (List.replicate rs.length (refD c))) := .lst (SqL.of (s _ _ S.l)) (dps_refs fun r hr => s _ _ (S.t r hr))
/-- some == [("refused", c)] * k -/
theorem Sm.eq (S : Sm K H0 H L sl c rs) (s : Same H H') (hk : rs.length = k.toNat) (ht : H' t = some (.tup [.str "refused", .str c])) (hl : H' l = some (.lst (List.replicate k.toNat [V.ref t]).flatten)) (q : Q (.bl true) H') (hx : PyData.strOk c = true := by decide +kernel) : rEqD K (.ref sl) (.ref l) H' Q := by
  rw [flat_rep] at hl
  refine use_eqD (S.dp s) (.lst (SqL.of hl) (dps_rep (dp_refu ht) _)) (shaped_refs hx _) (shaped_refs hx _) ?_
  have e : PyData.eqv (.list (List.replicate rs.length (refD c))) (.list (List.replicate k.toNat (refD c))) = true := by
    rw [hk]
    simp only [PyData.eqv]
    exact eqv_refs c _
  rw [show PyData.tuple [PyData.str (Str.ofString "refused"), PyData.str c] = refD c from rfl, e]
  exact q
theorem Sm.ne (S : Sm K H0 H L sl c rs) (s : Same H H') (hk : rs.length = k.toNat) (ht : H' t = some (.tup [.str "refused", .str c])) (hl : H' l = some (.lst (List.replicate k.toNat [V.ref t]).flatten)) (q : Q (.bl false) H') (hx : PyData.strOk c = true := by decide +kernel) : rNeD K (.ref sl) (.ref l) H' Q := by
  rw [flat_rep] at hl
  refine use_neD (S.dp s) (.lst (SqL.of hl) (dps_rep (dp_refu ht) _)) (shaped_refs hx _) (shaped_refs hx _) ?_
  have e : PyData.eqv (.list (List.replicate rs.length (refD c))) (.list (List.replicate k.toNat (refD c))) = true := by
    rw [hk]
    simp only [PyData.eqv]
    exact eqv_refs c _
  rw [show PyData.tuple [PyData.str (Str.ofString "refused"), PyData.str c] = refD c from rfl, e]
  exact q
/-- [told] -/
theorem Sm.one {H1 : Hp} {r : Addr} (W : WoodAt K H1 L) (T : LamX.Tabs (tabs K) H1) (x : LamX.ExtN H0 H1) (e : H1 r = some (.tup [.str "refused", .str c])) (q : ∀ sl H2, Sm K H0 H2 L sl c [r] → Q (.ref sl) H2) : New (.lst [.ref r]) H1 Q := fun sl H2 n2 s2 e2 =>
  q sl H2 ⟨x.trans (LamX.ExtN.of s2), (fun o h => by
    by_cases c : ∃ ps, o = .tbl ps
    · exact c
    · have := x sl o h fun ps z => c ⟨ps, z⟩
      rw [n2] at this
      cases this), W.same s2, T.ext s2, e2, (fun r' hr' => by
    rw [List.mem_singleton.mp hr']
    exact s2 _ _ e)⟩
end
end Vw
namespace Vw
open PySem PySem.Spec PyProof.Rows L2
local macro_rules | `(tactic| walk_at "rd") => `(tactic| simp only [tSeq, tNext, tIfS, tAsg, tRet, tRetN, tDrop, tVar, tC, tOp, tUn, tTest, tB, tAnd, tOr, tNot, tAndV, tOrV, tNotV, tIf, tChain, tCB, tCons, tNil, tCall, tMeth, tMake, tFld, sFld, tTup, tLst, tTupS, tLstS, tDNewKS, tDNewTS, tTold, tCmp, t2I, tIsN, tNotN, tPar, gName, gNil, gCons, gTup, gSub, rI0, rU, rEq, rNe, tDGet, tDIn, tDNotIn, sDPut, tDNewK, tDGet1, tDGet2, tDPop1, tDPop2, tBM, tBM0, tM0, tM1, tSl, tPart, tNoPart, tBreak, tCont, tThru, L2.start, List.map_cons, List.map_nil, List.length_cons, List.length_nil, List.cons_append, List.nil_append, List.append_nil, List.replicate_succ, List.replicate_zero, Nat.reduceAdd, Nat.reduceSub, Nat.zero_add, List.getElem?_cons_zero, List.getElem?_cons_succ, List.set_cons_zero, List.set_cons_succ, wipe, cxOf_K, tYes, List.cons.injEq, and_self, Option.some.injEq, V.int.injEq, V.bl.injEq, V.ref.injEq, V.str.injEq, exists_eq_left', exists_eq_left, exists_and_left, and_assoc, true_and, and_true, if_true, if_false, ite_true, ite_false, Bool.not_true, Bool.not_false, Bool.false_eq_true, reduceIte])
theorem numIn_nn {z : Str} {n : Int} (h : numIn z = some n) : 0 ≤ n := by
  unfold numIn at h
  split at h
  · cases h
    omega
  · cases h
theorem wf_app {rs : Rows} (F : Wf rs) {n : Int} {r : Row} (hn : hasR rs n = false) (u0 : 0 ≤ r.under) (ul : r.under < n) (hu : r.under = 0 ∨ hasR rs r.under = true) : Wf (rs ++ [(n, r)]) := by
  have hn' : ∀ p ∈ rs, p.1 ≠ n := findR_none.mp (by
    unfold hasR at hn
    cases q : findR rs n with
    | none => rfl
    | some r => rw [q] at hn; cases hn)
  have key : ∀ u : Int, (u = 0 ∨ ∃ z, findR rs u = some z) → (u = 0 ∨ ∃ z, findR (rs ++ [(n, r)]) u = some z) := fun u q => by
    rcases q with q | ⟨z, q⟩
    · exact .inl q
    · refine .inr ⟨z, ?_⟩
      rw [findR_app hn', if_neg (fun e => hn' _ (findR_mem q) e)]
      exact q
  refine ⟨?_, fun p hp => ?_, fun p hp => ?_, fun p hp => ?_, fun p hp => ?_⟩
  · rw [List.map_append]
    refine List.nodup_append.mpr ⟨F.nk, by simp, fun a ha b hb => ?_⟩
    obtain ⟨p, hp, rfl⟩ := List.mem_map.mp ha
    have eb : b = n := by simpa using hb
    rw [eb]
    exact hn' p hp
  all_goals rcases List.mem_append.mp hp with hp | hp
  · exact F.pos p hp
  · cases List.mem_singleton.mp hp
    show 0 < n
    omega
  · exact F.u0 p hp
  · cases List.mem_singleton.mp hp
    exact u0
  · exact F.ult p hp
  · cases List.mem_singleton.mp hp
    exact ul
  · exact key _ (F.has p hp)
  · cases List.mem_singleton.mp hp
    refine key _ ?_
    rcases hu with z | z
    · exact .inl z
    · exact .inr (Option.isSome_iff_exists.mp z)
theorem votes_has (us : List (Str × Int)) (z : Str) : (valV (votesK us) (Sum.inr z)).isSome = decide (z ∈ us.map (·.1)) := by
  cases q : valV (votesK us) (Sum.inr z) with
  | none =>
    rw [decide_eq_false (fun h => by
      obtain ⟨y, hy, e⟩ := List.mem_map.mp h
      exact votes_none q y hy e)]
    rfl
  | some y =>
    have m := valV_in q
    unfold votesK at m
    rw [List.map_map] at m
    obtain ⟨p, hp, ep⟩ := List.mem_map.mp m
    rw [decide_eq_true (List.mem_map.mpr ⟨p, hp, Sum.inr.inj ep⟩)]
    rfl
/-- a comprehension whose elements may be refused: at its end all were told -/
theorem lcX {K : PySem.W.Frag} {te0 : TE} {g : TG} {tt : TT} {te : TE} {vs : List Nat} {σ : L2.St} {H : Hp} {Q : VK} {α : Type} {l : List α} (it : α → V) (f : α → Option V) (src : ∀ R : VK, (∀ p H1, Same H H1 → SqL K H1 p (l.map it) → R (.ref p) H1) → te0 σ H R) (hn : l.length < sizeLine)
    (hs : ∀ a H', a ∈ l → Same H H' → ∀ N1 : V → Hp → Prop, (∀ y H4, Same H' H4 → f a = some y → N1 y H4) → g (it a) (wipe σ vs) H' fun σ2 H2 => wipe σ2 vs = wipe σ vs ∧ tt σ2 H2 fun b H3 => b = true ∧ te σ2 H3 N1)
    (mono : ∀ σ2 H2 (A B : Bool → Hp → Prop), (∀ b H, A b H → B b H) → tt σ2 H2 A → tt σ2 H2 B) (monoG : ∀ x σ2 H2 (A B : L2.St → Hp → Prop), (∀ s H, A s H → B s H) → g x σ2 H2 A → g x σ2 H2 B)
    (hd : ∀ D H', H D = none → Same H H' → (∀ a ∈ l, (f a).isSome = true) → H' D = some (.lst (l.filterMap f)) → Q (.ref D) H') : tLc (iList K te0) g tt te vs σ H Q := by
  refine src _ fun p H1 s1 hp => ⟨p, rfl, ⟨_, hp⟩, fun D hD => ?_⟩
  have w : Walk (Itl K p) l.length (fun H => SqL K H p (l.map it)) (YAt (l.map it)) := by
    have w := walk_list (K := K) (a := p) (xs := l.map it)
    rw [List.length_map] at w
    exact w
  have new : ∀ {H' : Hp} {o : HO}, Same H1 H' → Same H1 (upd H' D o) := fun {H' o} s => s.over hD
  refine lc_it w (fun i H' => Same H1 H' ∧ H' D = some (.lst ((l.take i).filterMap f)) ∧ ∀ a ∈ l.take i, (f a).isSome = true) ⟨new (Same.refl _), ?_, ?_⟩ (fun i H' _ q => q.1.seq hp) (fun i x H2 H3 hi q y => ?_) (fun H' q => ?_)
  · rw [upd_same]
    simp
  · intro a ha
    simp at ha
  · obtain ⟨a, ha⟩ : ∃ a, l[i]? = some a := ⟨l[i], by simp [hi]⟩
    obtain ⟨rfl, hx⟩ := y
    have e : x = it a := by
      rw [List.getElem?_map, ha] at hx
      exact (Option.some.inj hx).symm
    subst e
    obtain ⟨s2, eD, al⟩ := q
    refine monoG _ _ _ _ _ ?_ (hs a _ (List.mem_of_getElem? ha) (s1.trans s2) (fun y H4 => ∃ acc, H4 D = some (.lst acc) ∧ acc.length < sizeLine ∧ Same H1 (upd H4 D (.lst (acc ++ [y]))) ∧ upd H4 D (.lst (acc ++ [y])) D = some (.lst ((l.take (i + 1)).filterMap f)) ∧ ∀ b ∈ l.take (i + 1), (f b).isSome = true) fun y H4 s4 ef => ?_)
    · rintro σ2 H2 ⟨ew, h⟩
      refine ⟨ew, mono _ _ _ _ ?_ h⟩
      rintro b H3 ⟨rfl, h⟩
      exact h
    · refine ⟨_, s4 _ _ eD, ?_, new (s2.trans s4), ?_, ?_⟩
      · have h1 := List.length_filterMap_le f (l.take i)
        have h2 : (l.take i).length ≤ l.length := by rw [List.length_take]; omega
        omega
      · rw [upd_same, filterMap_take f ha, ef]
        rfl
      · intro b hb
        rw [List.take_add_one, ha] at hb
        rcases List.mem_append.mp hb with hb | hb
        · exact al b hb
        · have : b = a := by simpa using hb
          rw [this, ef]
          rfl
  · obtain ⟨s2, e, al⟩ := q
    rw [List.take_length] at e al
    exact hd D H' (s1.free hD) (s1.trans s2) al e
section
variable {P : Program} {w : World} {K : PySem.W.Frag} {mg : Str → Option Value} {base : Heap}
def spPutRow (K : PySem.W.Frag) : Sp := fun vs H Q E => ∃ (L : Lay) (row : Str), vs = [.ref L.p, .str row] ∧ WoodAt K H L ∧ Wf L.rows ∧ L.ents.length < 9000 ∧ row.length ≤ 9000 ∧
  (∀ M, putM L.wd row = .ok M → ∀ H' L', WoodAt K H' L' → L'.wd = M → Step H L H' L' → Q .non H') ∧ (∀ e, putM L.wd row = .error e → ∀ H', (∀ b o, b ∉ foot L → H b = some o → H' b = some o) → Bad K E e H')
abbrev N_put_row : List Str := ["wood", "row", "words", "number", "under", "time", "one", "word"]
theorem sc_put_row : FnScope N_put_row ["wood", "row"] (defScope s_put_row) := ⟨rfl, rfl, rfl, by decide +kernel, rfl, by decide +kernel, by decide +kernel⟩
theorem be_put_row : BindEq "put_row" "put_row" s_put_row ["wood", "row"] := fun _ _ _ _ _ _ us hl => match us, hl with | [_, _], _ => rfl
theorem D_put_row (T : Txt K mg base) : Def P w K mg base 3 (He.ga K "put_row") ["wood", "row"] (spPutRow K) := by
  refine mk_def T.f_put_row sc_put_row be_put_row (fun vs H Q E h => ?_) (fun cdv A outer s H vs Q E hr h => ?_)
  · obtain ⟨L, row, rfl, _⟩ := h
    rfl
  · obtain ⟨L, row, rfl, W, F, l9, lr, k1, k0⟩ := h
    refine ⟨_, (pss_cons (ps_set (i := 2) sc_put_row.nd rfl (Or.inl rfl) (pe_split (pv 1) pe_str))
      (pss_cons (ps_expr (pe_cd (D_need T) (by exact hr.mono (by first | decide | omega)) T.g_need passE (pa_cons (pe_cmpR op_gt (pe_callB call_len_seq (by rfl) T.b_len (by decide +kernel) (pa_cons (pv 2) pa_nil)) pe_int (nomark _)) pa_nil)))
      (pss_cons (ps_asg (pe_lcE (own := [("word", 7)]) (g := gName 7) rfl sc_put_row.nd rfl rfl takesE (pi_list (pe_slice sl_listN (pv 2) po_none (po_some pe_int))) (blkOk_by (N := N_put_row) (sc := defScope s_put_row) (by decide +kernel)) (fun _ _ _ _ _ _ => by exact (pg_name (i := 7) sc_put_row.nd rfl (Or.inl rfl))) (fun _ _ _ _ _ _ => pts_nil) (fun _ _ _ _ _ _ ps => by exact (pe_cd (D_number_in T) (by exact hr.mono (by first | decide | omega)) T.g_number_in ps (pa_cons (pv 7) pa_nil)))) (pg_unl (n := 3) (by rfl) (pgs_cons (pg_name (i := 3) sc_put_row.nd rfl (Or.inl rfl)) (pgs_cons (pg_name (i := 4) sc_put_row.nd rfl (Or.inl rfl)) (pgs_cons (pg_name (i := 5) sc_put_row.nd rfl (Or.inl rfl)) pgs_nil)))))
      (C8.pss_cut (ps_expr (pe_cd (D_need T) (by exact hr.mono (by first | decide | omega)) T.g_need passE (pa_cons (pe_or (pe_cmpR op_eq (pv 4) pe_int (nomark _)) (pe_one (pe_cmp (pc_di (pv 4) (pe_fld (pv 0) (by rfl)) (by exact hu_of hr))))) pa_nil)))
      (C8.pss_cut (ps_expr (pe_cd (D_need T) (by exact hr.mono (by first | decide | omega)) T.g_need passE (pa_cons (pe_and (pe_cmpR op_lt (pv 4) (pv 3) (nomark _)) (pe_one (pe_cmp (pc_dni (pv 3) (pe_fld (pv 0) (by rfl)) (by exact hu_of hr))))) pa_nil)))
      (C8.pss_cut (ps_expr (pe_cd (D_need T) (by exact hr.mono (by first | decide | omega)) T.g_need passE (pa_cons (pe_and (pe_cmpR op_le (pv 3) (pe_fld (pv 0) (by rfl)) (nomark _)) (pe_one (pe_cmpR op_le (pv 5) (pe_fld (pv 0) (by rfl)) (nomark _)))) pa_nil)))
      (pss_cons (ps_expr (pe_cd (D_need_name T) (by exact hr.mono (by first | decide | omega)) T.g_need_name passE (pa_cons (pe_ix ix_list (pv 2) pe_int (fun _ _ => rfl)) pa_nil)))
      (pss_cons (ps_set (i := 6) sc_put_row.nd rfl (Or.inl rfl) (pe_mk T.c_Saying.m (D_Saying___init__ T) (by exact hr.mono (by first | decide | omega)) T.c_Saying.g passE (pa_cons (pe_ix ix_list (pv 2) pe_int (fun _ _ => rfl)) (pa_cons (pv 4) (pa_cons (pe_join pe_str (pe_slice sl_listN (pv 2) (po_some pe_int) po_none)) (pa_cons (pv 5) pa_nil))))))
      (pss_cons (ps_fld (pv 6) (pe_cd (D_votes_in_texts T) (by exact hr.mono (by first | decide | omega)) T.g_votes_in_texts passE (pa_cons (pe_ix ix_list (pv 2) pe_int (fun _ _ => rfl)) pa_nil)) (by rfl))
      (pss_cons (ps_fld (pv 6) (pe_cmpR op_eq (pe_callB call_len_seq (by rfl) T.b_len (by decide +kernel) (pa_cons (pv 2) pa_nil)) pe_int (nomark _)) (by rfl))
      (pss_cons (ps_expr (pe_cd (D_need T) (by exact hr.mono (by first | decide | omega)) T.g_need passE (pa_cons (pe_cmp (pc_dni (pe_fld (pv 6) (by rfl)) (pe_fld (pv 6) (by rfl)) (by exact hu_of hr))) pa_nil)))
      (C8.pss_cut (ps_if (pt_not (pt_val (pe_fld (pv 6) (by rfl)))) (pss_one (ps_expr (pe_cd (D_need_text T) (by exact hr.mono (by first | decide | omega)) T.g_need_text passE (pa_cons (pe_fld (pv 6) (by rfl)) pa_nil)))) pss_nil)
      (pss_cons (ps_dp (pe_fld (pv 0) (by rfl)) (pv 3) (pv 6) (by exact hu_of hr))
      (pss_one (ps_expr (pe_cd (D_need T) (by exact hr.mono (by first | decide | omega)) T.g_need passE (pa_cons (pe_cmpR op_lt (pe_md (pv 0) T.c_Wood.c T.m_Wood_deep (D_Wood_deep T) (by exact hr.mono (by first | decide | omega)) passE (pa_cons (pv 3) pa_nil)) pe_int (nomark _)) pa_nil))))))))))))))))), ?_⟩
    walk_at "rd"
    have z9 : (100000 : Nat) < sizeLine := by rw [sizeLine_eq]; omega
    refine ⟨⟨_, rfl⟩, by decide +kernel, by omega, fun p nP => ?_⟩
    have pm : putM L.wd row = putW L.wd (Txt.split row (Str.ofString " ")) := rfl
    have wl : ∀ x ∈ Txt.split row (Str.ofString " "), x.length ≤ row.length := fun x hx => split_len hx
    have wsum := split_sum row (Str.ofString " ")
    have wn : (Txt.split row (Str.ofString " ")).length ≤ row.length + 2 := split_le row _
    generalize Txt.split row (Str.ofString " ") = ws at pm wl wn wsum ⊢
    have s1 : Same H (upd H p (.lst (ws.map V.str))) := Same.new nP
    have e1 : upd H p (.lst (ws.map V.str)) p = some (.lst (ws.map V.str)) := upd_same
    generalize upd H p (.lst (ws.map V.str)) = H1 at s1 e1 ⊢
    have bad : ∀ {e : Er} {H' : Hp}, putW L.wd ws = .error e → Same H H' → Bad K E e H' := fun {e H'} h s => k0 e (pm.trans h) H' fun b o _ q => s b o q
    refine ⟨p, rfl, _, .inl (SqL.of e1), ?_⟩
    rw [List.length_map]
    refine use_need (fun c4 => ?_) (fun c4 => bad ?_ s1)
    · have c4 := of_decide_eq_true c4
      obtain ⟨w0, w1, w2, w3, w4, t, rfl⟩ : ∃ w0 w1 w2 w3 w4 t, ws = w0 :: w1 :: w2 :: w3 :: w4 :: t := by
        match ws, c4 with
        | w0 :: w1 :: w2 :: w3 :: w4 :: t, _ => exact ⟨w0, w1, w2, w3, w4, t, rfl⟩
        | [], h => simp at h
        | [_], h => simp at h
        | [_, _], h => simp at h
        | [_, _, _], h => simp at h
        | [_, _, _, _], h => simp at h
      refine lcX (l := [w0, w1, w2]) V.str (fun x => (numIn x).map V.int) (fun R h => ?_) (by show 3 < _; omega) (fun x H2 hx s2 N1 h1 => ?_) (fun _ _ _ _ h => h _ _) (fun _ _ _ _ _ h => h _ _) (fun D H2 nD s2 al eD => ?_)
      · walk_at "rd"
        exact ⟨p, _, rfl, SqL.of e1, fun q H2 n2 s2 e2 => h q H2 s2 (SqL.of e2)⟩
      · walk_at "rd"
        have hm : x ∈ w0 :: w1 :: w2 :: w3 :: w4 :: t := by
          have hx : x = w0 ∨ x = w1 ∨ x = w2 := by simpa using hx
          rcases hx with rfl | rfl | rfl <;> simp
        refine ⟨x, rfl, by have := wl x hm; omega, fun n hn H3 s3 => h1 _ _ s3 (by rw [hn]; rfl), fun hn H3 s3 => bad ?_ (s1.trans (s2.trans s3))⟩
        have hx : x = w0 ∨ x = w1 ∨ x = w2 := by simpa using hx
        rcases hx with rfl | rfl | rfl
        · exact putW_none (.inl hn)
        · exact putW_none (.inr (.inl hn))
        · exact putW_none (.inr (.inr hn))
      · obtain ⟨vn, hvn⟩ := Option.isSome_iff_exists.mp (al w0 (by simp))
        obtain ⟨vu, hvu⟩ := Option.isSome_iff_exists.mp (al w1 (by simp))
        obtain ⟨vt, hvt⟩ := Option.isSome_iff_exists.mp (al w2 (by simp))
        obtain ⟨n, hn, rfl⟩ := Option.map_eq_some_iff.mp hvn
        obtain ⟨u, hu, rfl⟩ := Option.map_eq_some_iff.mp hvu
        obtain ⟨tm, ht, rfl⟩ := Option.map_eq_some_iff.mp hvt
        have eD : H2 D = some (.lst [.int n, .int u, .int tm]) := by
          rw [eD]
          simp [hn, hu, ht]
        refine ⟨D, _, rfl, SqL.of eD, rfl, ?_⟩
        walk_at "rd"
        have pn : putW L.wd (w0 :: w1 :: w2 :: w3 :: w4 :: t) = putN L.wd n u tm w3 w4 t := putW_some hn hu ht
        have badN : ∀ {e : Er} {H' : Hp}, putN L.wd n u tm w3 w4 t = .error e → Same H H' → Bad K E e H' := fun {e H'} h s => bad (pn.trans h) s
        have s02 := s1.trans s2
        have W2 := W.same s02
        have e2 := s2 _ _ e1
        have hasE : ∀ m : Int, (valV (L.ents.map entK) (Sum.inl m)).isSome = hasR L.wd.rows m := fun m => by
          rw [valE]
          unfold hasR
          show _ = (findR L.rows m).isSome
          rw [L.find]
          cases findE L.ents m <;> rfl
        refine ⟨fun σ' H' => H' = H2 ∧ σ' = [some (.ref L.p), some (.str row), some (.ref p), some (.int n), some (.int u), some (.int tm), none, none] ∧ (decide (u = 0) || hasR L.wd.rows u) = true, ?_, ?_⟩
        · walk_at "rd"
          refine ⟨rfl, ?_⟩
          by_cases c0 : u = 0
          · rw [decide_eq_true c0]
            exact iteT (use_need (fun _ => ⟨rfl, rfl⟩) (fun z => by cases z))
          · rw [decide_eq_false c0]
            refine iteF (W2.fsay T ⟨_, rfl, _, .inl ⟨_, Sum.inl u, .inl W2.dic, rfl, rfl⟩, ?_⟩)
            rw [hasE]
            refine use_need (fun z => ⟨rfl, by rw [z]; rfl⟩) (fun z => badN ?_ s02)
            unfold putN
            rw [decide_eq_false c0, z]
            rfl
        · rintro σ' H' ⟨rfl, rfl, cu⟩
          refine ⟨fun σ' H2 => H2 = H' ∧ σ' = [some (.ref L.p), some (.str row), some (.ref p), some (.int n), some (.int u), some (.int tm), none, none] ∧ (decide (u < n) && !hasR L.wd.rows n) = true, ?_, ?_⟩
          · walk_at "rd"
            by_cases c0 : u < n
            · rw [decide_eq_true c0]
              refine iteT (W2.fsay T ⟨_, rfl, _, .inl ⟨_, Sum.inl n, .inl W2.dic, rfl, rfl⟩, ?_⟩)
              rw [hasE]
              refine use_need (fun z => ⟨rfl, by rw [z]; rfl⟩) (fun z => badN ?_ s02)
              unfold putN
              rw [cu, decide_eq_true c0, z]
              rfl
            · rw [decide_eq_false c0]
              refine iteF (use_need (fun z => by cases z) (fun _ => badN ?_ s02))
              unfold putN
              rw [cu, decide_eq_false c0]
              rfl
          · rintro σ' H2 ⟨rfl, rfl, cn⟩
            refine ⟨fun σ' H' => H' = H2 ∧ σ' = [some (.ref L.p), some (.str row), some (.ref p), some (.int n), some (.int u), some (.int tm), none, none] ∧ (decide (n ≤ L.wd.came) && decide (tm ≤ L.wd.clock)) = true, ?_, ?_⟩
            · walk_at "rd"
              refine W2.fcame T ⟨_, rfl, ?_⟩
              by_cases c0 : n ≤ L.came
              · rw [decide_eq_true c0]
                refine iteT (W2.fclock T ⟨_, rfl, ?_⟩)
                refine use_need (fun z => ⟨rfl, ?_⟩) (fun z => badN ?_ s02)
                · rw [decide_eq_true (show n ≤ L.wd.came from c0), show decide (tm ≤ L.wd.clock) = true from z]
                  rfl
                · unfold putN
                  rw [cu, cn, decide_eq_true (show n ≤ L.wd.came from c0), show decide (tm ≤ L.wd.clock) = false from z]
                  rfl
              · rw [decide_eq_false c0]
                refine iteF (use_need (fun z => by cases z) (fun _ => badN ?_ s02))
                unfold putN
                rw [cu, cn, decide_eq_false (show ¬ n ≤ L.wd.came from c0)]
                rfl
            · rintro σ' H' ⟨rfl, rfl, cc⟩
              walk_at "rd"
              have pn1 : putN L.wd n u tm w3 w4 t = (if nameZ w3 = false then .error .name else match votesR w4 with
                  | .error e => .error e
                  | .ok vs => if w3 ∈ vs.map (·.1) then .error .text else if t ≠ [] ∧ textZ (Txt.join " " t) = false then .error .text else
                    if 8 ≤ deepI (L.wd.rows ++ [(n, rowR w3 u tm vs t)]) n then .error .text else .ok ⟨L.wd.rows ++ [(n, rowR w3 u tm vs t)], L.wd.came, L.wd.clock⟩) := by
                unfold putN
                rw [cu, cn, cc]
                rfl
              have a3 : atI (List.map V.str (w0 :: w1 :: w2 :: w3 :: w4 :: t)) 3 = some (.str w3) := by
                rw [atI_nn (by decide) (by simp only [List.length_map, List.length_cons]; omega)]
                rfl
              have a4 : atI (List.map V.str (w0 :: w1 :: w2 :: w3 :: w4 :: t)) 4 = some (.str w4) := by
                rw [atI_nn (by decide) (by simp only [List.length_map, List.length_cons]; omega)]
                rfl
              have w3l : w3.length < sizeLine := by have := wl w3 (by simp); omega
              refine ⟨p, _, 3, .str w3, rfl, rfl, SqL.of e2, a3, _, .str w3, rfl, .str _, w3l, fun hok H3 s3 => ?_, fun hok H3 s3 => badN ?_ (s02.trans s3)⟩
              · have hok : nameZ w3 = true := hok
                rw [hok, if_neg (by decide)] at pn1
                have e3 := s3 _ _ e2
                refine ⟨p, _, 3, .str w3, rfl, rfl, SqL.of e3, a3, ?_⟩
                dsimp only
                refine ⟨⟨_, rfl⟩, p, _, rfl, SqL.of e3, fun q4 H4 n4 s4 e4 => ?_⟩
                have ecut : cutV (List.map V.str (w0 :: w1 :: w2 :: w3 :: w4 :: t)) (some 5) none = t.map V.str := by
                  unfold cutV
                  have z1 : HT.sIx (List.map V.str (w0 :: w1 :: w2 :: w3 :: w4 :: t)).length 0 (some 5) = 5 := by
                    have := HT.sIx_nat (List.map V.str (w0 :: w1 :: w2 :: w3 :: w4 :: t)).length 0 5
                    rw [Nat.min_eq_left (by simp only [List.length_map, List.length_cons]; omega)] at this
                    exact this
                  rw [z1, HT.sIx_none, List.take_of_length_le]
                  · rfl
                  · rw [List.length_drop]
                    omega
                rw [ecut] at e4
                have one_ : (Str.ofString " ").length = 1 := by decide +kernel
                simp only [List.map_cons, List.sum_cons, List.length_cons] at wsum wn
                rw [one_] at wsum
                refine ⟨q4, rfl, t, .inl (SqL.of e4), by rw [one_]; omega, fun a dx na ndx nax => ?_⟩
                refine ⟨a, dx, w3, Txt.join (Str.ofString " ") t, u, tm, rfl, upd_same, fun v0 H5 nv0 S5 k5 => ⟨rfl, ?_⟩⟩
                have sa : Same H4 (upd (upd H4 dx (.own a)) a (.ins (cS K) dx [])) := (Same.new ndx).trans (Same.new (by rw [upd_ne nax.symm]; exact na))
                have s45 : Same H4 H5 := fun b o e => k5 b o (ne_of_none e na) (sa b o e)
                have s05 : Same H H5 := (s02.trans s3).trans (s4.trans s45)
                have na0 : H a = none := (s02.trans (s3.trans s4)).free na
                have e5 := (s4.trans s45) _ _ e3
                have w4l : w4.length < sizeLine := by have := wl w4 (by simp); omega
                refine ⟨p, _, 4, .str w4, rfl, rfl, SqL.of e5, a4, w4, rfl, w4l, fun us hus Dv H6 nDv s6 eDv => ?_, fun er her H6 s6 => badN ?_ (s05.trans s6)⟩
                · rw [hus] at pn1
                  have pn1 : putN L.wd n u tm w3 w4 t = (if w3 ∈ us.map (·.1) then .error .text else if t ≠ [] ∧ textZ (Txt.join " " t) = false then .error .text else
                    if 8 ≤ deepI (L.wd.rows ++ [(n, rowR w3 u tm us t)]) n then .error .text else .ok ⟨L.wd.rows ++ [(n, rowR w3 u tm us t)], L.wd.came, L.wd.clock⟩) := pn1
                  have S6 := S5.same s6
                  refine ⟨_, _, _, S6.o, T.c_Saying.c, T.n_Saying_votes, by rw [fs_len]; decide, ?_⟩
                  rw [fp_votes _ _ _ us]
                  obtain ⟨und, unl⟩ := votesR_nodup hus
                  have w4r := wl w4 (by simp)
                  have nda : Dv ≠ a := fun z => by rw [z, S5.o] at nDv; cases nDv
                  have nDv0 : H Dv = none := s05.free nDv
                  generalize eo : HO.ins (cS K) dx (sayFs _ Dv) = oo
                  have S7 : SayAt K (upd H6 a oo) a dx Dv { who := w3, under := u, text := Txt.join (Str.ofString " ") t, time := tm, votes := us, struck := false } := ⟨by rw [upd_same, ← eo], by rw [upd_ne nda]; exact eDv, und, by show us.length < _; omega⟩
                  have s07 : Same H (upd H6 a oo) := (s05.trans s6).over na0
                  have e7 : upd H6 a oo p = some (.lst (List.map V.str (w0 :: w1 :: w2 :: w3 :: w4 :: t))) := by
                    rw [upd_ne (ne_of_none (s4 _ _ e3) na)]
                    exact s6 _ _ e5
                  generalize upd H6 a oo = H7 at S7 s07 e7 ⊢
                  clear eo
                  refine ⟨_, .inl (SqL.of e7), rfl, _, _, _, S7.o, T.c_Saying.c, T.n_Saying_is_struck, by rw [fs_len]; decide, ?_⟩
                  rw [fp_struck]
                  have est : decide (((List.map V.str (w0 :: w1 :: w2 :: w3 :: w4 :: t)).length : Int) = 5) = decide (t = []) := by
                    cases t with
                    | nil => rfl
                    | cons y t =>
                      rw [decide_eq_false (by simp only [List.length_map, List.length_cons]; omega), decide_eq_false (by intro z; cases z)]
                  rw [est]
                  generalize eo : HO.ins (cS K) dx (sayFs _ Dv) = oo
                  have S8 : SayAt K (upd H7 a oo) a dx Dv (rowR w3 u tm us t) := ⟨by rw [upd_same, ← eo]; rfl, by rw [upd_ne nda]; exact S7.d, und, by show us.length < _; omega⟩
                  have s08 : Same H (upd H7 a oo) := s07.over na0
                  generalize upd H7 a oo = H8 at S8 s08 ⊢
                  clear eo
                  refine S8.fby T (S8.fvotes T ⟨_, rfl, _, .inl ⟨_, Sum.inr w3, .inl S8.d, rfl, rfl⟩, ?_⟩)
                  have esm : (valV (votesK (rowR w3 u tm us t).votes) (Sum.inr w3)).isSome = decide (w3 ∈ us.map (·.1)) := by
                    show (valV (votesK us) (Sum.inr w3)).isSome = _
                    exact votes_has us w3
                  rw [esm]
                  by_cases cw : w3 ∈ us.map (·.1)
                  · rw [if_pos cw] at pn1
                    rw [decide_eq_true cw]
                    exact use_need (fun z => by cases z) (fun _ => badN pn1 s08)
                  · rw [if_neg cw] at pn1
                    rw [decide_eq_false cw]
                    refine use_need (fun _ => ?_) (fun z => by cases z)
                    refine ⟨fun σ' H' => Same H8 H' ∧ σ' = [some (.ref L.p), some (.str row), some (.ref p), some (.int n), some (.int u), some (.int tm), some (.ref a), none] ∧ ¬ (t ≠ [] ∧ textZ (Txt.join " " t) = false), ?_, ?_⟩
                    · walk_at "rd"
                      refine S8.fstruck T ⟨_, rfl, ?_⟩
                      by_cases ct : t = []
                      · rw [show (rowR w3 u tm us t).struck = true from decide_eq_true ct]
                        exact iteF ⟨Same.refl _, fun z => z.1 ct⟩
                      · rw [show (rowR w3 u tm us t).struck = false from decide_eq_false ct]
                        refine iteT (S8.ftext T ⟨_, .str (Txt.join (Str.ofString " ") t), rfl, .str _, ?_, fun h H9 s9 => ?_, fun h H9 s9 => ?_⟩)
                        · show (Txt.join (Str.ofString " ") t).length < sizeLine
                          rw [join_len_eq ct, one_]
                          omega
                        · exact ⟨s9, fun z => by rw [show textZ (Txt.join " " t) = true from h] at z; cases z.2⟩
                        · refine badN ?_ (s08.trans s9)
                          rw [pn1, if_pos ⟨ct, h⟩]
                    · rintro σ' H9 ⟨s9, rfl, ct⟩
                      rw [if_neg ct] at pn1
                      walk_at "rd"
                      have S9 := S8.same s9
                      have s09 := s08.trans s9
                      have W9 := W.same s09
                      have hnn : hasR L.rows n = false := by
                        have := (Bool.and_eq_true_iff.mp cn).2
                        cases q : hasR L.rows n with
                        | false => rfl
                        | true => rw [show hasR L.wd.rows n = true from q] at this; cases this
                      have hun : u < n := of_decide_eq_true (Bool.and_eq_true_iff.mp cn).1
                      have huh : u = 0 ∨ hasR L.rows u = true := by
                        rcases Bool.or_eq_true_iff.mp cu with z | z
                        · exact .inl (of_decide_eq_true z)
                        · exact .inr z
                      have F9 := wf_app F (n := n) (r := rowR w3 u tm us t) hnn (numIn_nn hu) hun huh
                      have hn' : ∀ p ∈ L.rows, p.1 ≠ n := findR_none.mp (by
                        unfold hasR at hnn
                        cases q : findR L.rows n with
                        | none => rfl
                        | some r => rw [q] at hnn; cases hnn)
                      refine W9.fsay T ⟨_, rfl, ?_⟩
                      have fn9 : ∀ b ∈ foot L, (fun _ => none : Hp) b = none := fun _ _ => rfl
                      have le := L.elen
                      have vn : valV (L.ents.map entK) (Sum.inl n) = none := by
                        have := hasE n
                        rw [show hasR L.wd.rows n = false from hnn] at this
                        cases q : valV (L.ents.map entK) (Sum.inl n) with
                        | none => rfl
                        | some y => rw [q] at this; cases this
                      have ed : putK (L.ents.map entK) (Sum.inl n) (.ref a) = L.ents.map entK ++ [entK ⟨n, rowR w3 u tm us t, a, dx, Dv⟩] := putK_new _ vn
                      have kp : ∀ b o, b ≠ L.d → H b = some o → upd H9 L.d (.dK (putK (L.ents.map entK) (Sum.inl n) (.ref a))) b = some o := fun b o hb e => by
                        rw [upd_ne hb]
                        exact s09 b o e
                      have SX : SayAt K (upd H9 L.d (.dK (putK (L.ents.map entK) (Sum.inl n) (.ref a)))) a dx Dv (rowR w3 u tm us t) :=
                        ⟨by rw [upd_ne (ne_of S9.o W9.dic (by intro q; cases q))]; exact S9.o, by rw [upd_ne (fun z => by rw [z, W.dic] at nDv0; cases nDv0)]; exact S9.d, S9.nd, S9.sz⟩
                      have hn2 : ∀ e ∈ L.ents, e.n ≠ n := fun e he => hn' (e.n, e.row) (List.mem_map.mpr ⟨e, he, rfl⟩)
                      have WX := W.put SX na0 nDv0 hn2 kp (by rw [upd_same, ed]) (by omega)
                      have st : Step H L _ _ := Step.put (n := n) (r := rowR w3 u tm us t) (x := dx) na0 nDv0 kp
                      have er : ({ L with ents := L.ents ++ [⟨n, rowR w3 u tm us t, a, dx, Dv⟩] } : Lay).rows = L.rows ++ [(n, rowR w3 u tm us t)] := by
                        unfold Lay.rows
                        rw [List.map_append]
                        rfl
                      refine ⟨_, DPut.k (k := Sum.inl n) W9.dic (by rw [List.length_map]; omega), _, _, WX.top, fw_no _ _ _ (by decide) (by decide) (by decide), { L with ents := L.ents ++ [⟨n, rowR w3 u tm us t, a, dx, Dv⟩] }, n, rfl, WX, by rw [er]; exact F9, .inr ?_, ?_⟩
                      · exact ⟨_, findE_of WX.nk (List.mem_append_right _ List.mem_cons_self)⟩
                      · rw [er]
                        refine ⟨_, rfl, use_need (fun h8 => k1 _ ?_ _ _ WX rfl st) (fun h8 => k0 _ (pm.trans (pn.trans ?_)) _ st.keep)⟩
                        · rw [pm, pn, pn1, if_neg (by have : ((deepI (L.wd.rows ++ [(n, rowR w3 u tm us t)]) n : Nat) : Int) < 8 := of_decide_eq_true h8; omega)]
                          unfold Lay.wd
                          rw [er]
                        · rw [pn1, if_pos (by have : ¬ ((deepI (L.wd.rows ++ [(n, rowR w3 u tm us t)]) n : Nat) : Int) < 8 := of_decide_eq_false h8; omega)]
                · rw [pn1, her]
              · have hok : nameZ w3 = false := hok
                rw [pn1, hok]
                rfl
    · have c4 := of_decide_eq_false c4
      match ws, c4 with
      | w0 :: w1 :: w2 :: w3 :: w4 :: t, h => exact absurd (by simp only [List.length_cons]; omega) h
      | [], h => rfl
      | [_], h => rfl
      | [_, _], h => rfl
      | [_, _, _], h => rfl
      | [_, _, _, _], h => rfl
end
end Vw
namespace Vw
open PySem PySem.Spec PyProof.Rows L2
local macro_rules | `(tactic| walk_at "rd") => `(tactic| simp only [tSeq, tNext, tIfS, tAsg, tRet, tRetN, tDrop, tVar, tC, tOp, tUn, tTest, tB, tAnd, tOr, tNot, tAndV, tOrV, tNotV, tIf, tChain, tCB, tCons, tNil, tCall, tMeth, tMake, tFld, sFld, tTup, tLst, tTupS, tLstS, tDNewKS, tDNewTS, tTold, tCmp, t2I, tIsN, tNotN, tPar, gName, gNil, gCons, gTup, gSub, rI0, rU, rEq, rNe, tDGet, tDIn, tDNotIn, sDPut, tDNewK, tDGet1, tDGet2, tDPop1, tDPop2, tBM, tBM0, tM0, tM1, tSl, tPart, tNoPart, tBreak, tCont, tThru, L2.start, List.map_cons, List.map_nil, List.length_cons, List.length_nil, List.cons_append, List.nil_append, List.append_nil, List.replicate_succ, List.replicate_zero, Nat.reduceAdd, Nat.reduceSub, Nat.zero_add, List.getElem?_cons_zero, List.getElem?_cons_succ, List.set_cons_zero, List.set_cons_succ, wipe, cxOf_K, tYes, List.cons.injEq, and_self, Option.some.injEq, V.int.injEq, V.bl.injEq, V.ref.injEq, V.str.injEq, exists_eq_left', exists_eq_left, exists_and_left, and_assoc, true_and, and_true, if_true, if_false, ite_true, ite_false, Bool.not_true, Bool.not_false, Bool.false_eq_true, reduceIte])
theorem putN_ok {M M' : Wd} {n u tm : Int} {w3 w4 : Str} {t : List Str} (h : putN M n u tm w3 w4 t = .ok M') : ∃ vs, votesR w4 = .ok vs ∧ nameZ w3 = true ∧ w3 ∉ vs.map (·.1) ∧ ¬ (t ≠ [] ∧ textZ (Txt.join " " t) = false) ∧ (u = 0 ∨ hasR M.rows u = true) ∧ u < n ∧ hasR M.rows n = false ∧ n ≤ M.came ∧ tm ≤ M.clock ∧
    deepI (M.rows ++ [(n, rowR w3 u tm vs t)]) n < 8 ∧ M' = ⟨M.rows ++ [(n, rowR w3 u tm vs t)], M.came, M.clock⟩ := by
  unfold putN at h
  split at h
  · cases h
  rename_i c1
  split at h
  · cases h
  rename_i c2
  split at h
  · cases h
  rename_i c3
  split at h
  · cases h
  rename_i c4
  split at h
  · cases h
  rename_i vs hv
  split at h
  · cases h
  rename_i c5
  split at h
  · cases h
  rename_i c6
  split at h
  · cases h
  rename_i c7
  cases h
  have c1 := Bool.or_eq_true_iff.mp (eq_true_of_ne_false c1)
  have c2 := Bool.and_eq_true_iff.mp (eq_true_of_ne_false c2)
  have c3 := Bool.and_eq_true_iff.mp (eq_true_of_ne_false c3)
  refine ⟨vs, hv, eq_true_of_ne_false c4, c5, c6, ?_, of_decide_eq_true c2.1, ?_, of_decide_eq_true c3.1, of_decide_eq_true c3.2, by omega, rfl⟩
  · rcases c1 with z | z
    · exact .inl (of_decide_eq_true z)
    · exact .inr z
  · have := c2.2
    cases q : hasR M.rows n with
    | false => rfl
    | true => rw [q] at this; cases this
theorem putW_ok {M M' : Wd} {ws : List Str} (h : putW M ws = .ok M') : ∃ w0 w1 w2 w3 w4 t n u tm, ws = w0 :: w1 :: w2 :: w3 :: w4 :: t ∧ numIn w0 = some n ∧ numIn w1 = some u ∧ numIn w2 = some tm ∧ putN M n u tm w3 w4 t = .ok M' := by
  match ws, h with
  | w0 :: w1 :: w2 :: w3 :: w4 :: t, h =>
    cases h0 : numIn w0 with
    | none => rw [putW_none (.inl h0)] at h; cases h
    | some n =>
      cases h1 : numIn w1 with
      | none => rw [putW_none (.inr (.inl h1))] at h; cases h
      | some u =>
        cases h2 : numIn w2 with
        | none => rw [putW_none (.inr (.inr h2))] at h; cases h
        | some tm =>
          rw [putW_some h0 h1 h2] at h
          exact ⟨w0, w1, w2, w3, w4, t, n, u, tm, rfl, h0, h1, h2, h⟩
  | [], h => cases h
  | [_], h => cases h
  | [_, _], h => cases h
  | [_, _, _], h => cases h
  | [_, _, _, _], h => cases h
theorem putM_wf {M M' : Wd} {row : Str} (F : Wf M.rows) (h : putM M row = .ok M') : Wf M'.rows ∧ M'.rows.length = M.rows.length + 1 ∧ M'.came = M.came ∧ M'.clock = M.clock := by
  obtain ⟨w0, w1, w2, w3, w4, t, n, u, tm, _, h0, h1, h2, h⟩ := putW_ok h
  obtain ⟨vs, _, _, _, _, a1, a2, a3, _, _, _, rfl⟩ := putN_ok h
  exact ⟨wf_app F a3 (numIn_nn h1) a2 a1, by simp, rfl, rfl⟩
theorem putsM_cons {M M' : Wd} {r : Str} {rs : List Str} (h : putM M r = .ok M') : putsM M (r :: rs) = putsM M' rs := by
  simp only [putsM, h]
theorem putsM_bad {M : Wd} {r : Str} {rs : List Str} {e : Er} (h : putM M r = .error e) : putsM M (r :: rs) = .error e := by
  simp only [putsM, h]
theorem putsM_wf : ∀ {rs : List Str} {M M' : Wd}, Wf M.rows → putsM M rs = .ok M' → Wf M'.rows ∧ M'.rows.length = M.rows.length + rs.length ∧ M'.came = M.came ∧ M'.clock = M.clock
  | [], M, M', F, h => by
    cases h
    exact ⟨F, rfl, rfl, rfl⟩
  | r :: rs, M, M', F, h => by
    cases q : putM M r with
    | error e => rw [putsM_bad q] at h; cases h
    | ok M1 =>
      rw [putsM_cons q] at h
      obtain ⟨F1, l1, c1, k1⟩ := putM_wf F q
      obtain ⟨F2, l2, c2, k2⟩ := putsM_wf F1 h
      exact ⟨F2, by rw [l2, l1, List.length_cons]; omega, c2.trans c1, k2.trans k1⟩
section
variable {P : Program} {w : World} {K : PySem.W.Frag} {mg : Str → Option Value} {base : Heap}
def spFilled (K : PySem.W.Frag) : Sp := fun vs H Q E => ∃ (q : Addr) (rows : List Str), vs = [.ref q] ∧ SqL K H q (rows.map V.str) ∧ rows ≠ [] ∧ rows.length < 9000 ∧ (∀ r ∈ rows, r.length ≤ 9000) ∧
  (∀ M, filledM rows = .ok M → ∀ H' L', WoodAt K H' L' → L'.wd = M → Wf L'.rows → Same H H' → (∀ b ∈ foot L', H b = none) → Q (.ref L'.p) H') ∧ (∀ e, filledM rows = .error e → ∀ H', Same H H' → Bad K E e H')
abbrev N_filled : List Str := ["rows", "words", "wood", "row", "word"]
theorem sc_filled : FnScope N_filled ["rows"] (defScope s_filled) := ⟨rfl, rfl, rfl, by decide +kernel, rfl, by decide +kernel, by decide +kernel⟩
theorem be_filled : BindEq "filled" "filled" s_filled ["rows"] := fun _ _ _ _ _ _ us hl => match us, hl with | [_], _ => rfl
theorem D_filled (T : Txt K mg base) : Def P w K mg base 4 (He.ga K "filled") ["rows"] (spFilled K) := by
  refine mk_def T.f_filled sc_filled be_filled (fun vs H Q E h => ?_) (fun cdv A outer s H vs Q E hr h => ?_)
  · obtain ⟨q, rows, rfl, _⟩ := h
    rfl
  · obtain ⟨q, rows, rfl, hq, ne, ln, lr, k1, k0⟩ := h
    refine ⟨_, (pss_cons (ps_set (i := 1) sc_filled.nd rfl (Or.inl rfl) (pe_split (pe_ix ix_list (pv 0) pe_int (fun _ _ => rfl)) pe_str))
      (pss_cons (ps_expr (pe_cd (D_need T) (by exact hr.mono (by first | decide | omega)) T.g_need passE (pa_cons (pe_cmpR op_eq (pe_callB call_len_seq (by rfl) T.b_len (by decide +kernel) (pa_cons (pv 1) pa_nil)) pe_int (nomark _)) pa_nil)))
      (pss_cons (ps_set (i := 2) sc_filled.nd rfl (Or.inl rfl) (pe_mk0 T.c_Wood.m (D_Wood___init__ T) (by exact hr.mono (by first | decide | omega)) T.c_Wood.g passE))
      (pss_cons (ps_asg (pe_lcE (own := [("word", 4)]) (g := gName 4) rfl sc_filled.nd rfl rfl takesE (pi_list (pv 1)) (blkOk_by (N := N_filled) (sc := defScope s_filled) (by decide +kernel)) (fun _ _ _ _ _ _ => by exact (pg_name (i := 4) sc_filled.nd rfl (Or.inl rfl))) (fun _ _ _ _ _ _ => pts_nil) (fun _ _ _ _ _ _ ps => by exact (pe_cd (D_number_in T) (by exact hr.mono (by first | decide | omega)) T.g_number_in ps (pa_cons (pv 4) pa_nil)))) (pg_unl (n := 2) (by rfl) (pgs_cons (pg_fld (pv 2)) (pgs_cons (pg_fld (pv 2)) pgs_nil))))
      (pss_cons (ps_for ownE rfl (pi_list (pe_slice sl_listN (pv 0) (po_some pe_int) po_none)) (pg_name (i := 3) sc_filled.nd rfl (Or.inl rfl))
      (pss_one (ps_expr (pe_cd (D_put_row T) (by exact hr.mono (by first | decide | omega)) T.g_put_row passE (pa_cons (pv 2) (pa_cons (pv 3) pa_nil))))))
      (pss_one (ps_ret (pv 2)))))))), ?_⟩
    walk_at "rd"
    have z9 : (100000 : Nat) < sizeLine := by rw [sizeLine_eq]; omega
    obtain ⟨r0, rs, rfl⟩ := List.exists_cons_of_ne_nil ne
    have l0 := lr r0 List.mem_cons_self
    refine ⟨q, _, 0, .str r0, rfl, rfl, hq, ?_, ⟨_, rfl⟩, r0, rfl, by decide +kernel, ?_, fun p nP => ?_⟩
    · rw [atI_nn (by decide) (by simp only [List.length_map, List.length_cons]; omega)]
      rfl
    · omega
    have fm : filledM (r0 :: rs) = (if (Txt.split r0 (Str.ofString " ")).length ≠ 2 then .error .text else match numIn (wordAt (Txt.split r0 (Str.ofString " ")) 0) with
      | none => .error .text
      | some k => match numIn (wordAt (Txt.split r0 (Str.ofString " ")) 1) with
        | none => .error .text
        | some c => putsM ⟨[], c, k⟩ rs) := rfl
    have wl : ∀ x ∈ Txt.split r0 (Str.ofString " "), x.length ≤ r0.length := fun x hx => split_len hx
    have wn : (Txt.split r0 (Str.ofString " ")).length ≤ r0.length + 2 := split_le r0 _
    generalize Txt.split r0 (Str.ofString " ") = ws at fm wl wn ⊢
    have s1 : Same H (upd H p (.lst (ws.map V.str))) := Same.new nP
    have e1 : upd H p (.lst (ws.map V.str)) p = some (.lst (ws.map V.str)) := upd_same
    generalize upd H p (.lst (ws.map V.str)) = H1 at s1 e1 ⊢
    refine ⟨p, rfl, _, .inl (SqL.of e1), rfl, ?_⟩
    rw [List.length_map]
    refine use_need (fun c2 => ?_) (fun c2 => k0 .text ?_ H1 s1)
    · have c2 := of_decide_eq_true c2
      obtain ⟨w0, w1, rfl⟩ : ∃ w0 w1, ws = [w0, w1] := by
        match ws, c2 with
        | [w0, w1], _ => exact ⟨w0, w1, rfl⟩
        | [], h => simp at h
        | [_], h => simp at h
        | _ :: _ :: _ :: _, h => simp only [List.length_cons] at h; omega
      intro p3 dx hp hdx npd
      refine ⟨p3, dx, rfl, upd_same, ?_⟩
      intro d H2 nd W2 k2
      have sa : Same H1 (upd (upd H1 dx (.own p3)) p3 (.ins (cW K) dx [])) := (Same.new hdx).trans (Same.new (by rw [upd_ne npd.symm]; exact hp))
      have s12 : Same H1 H2 := fun b o e => k2 b o (ne_of_none e hp) (sa b o e)
      have s02 := s1.trans s12
      have hp0 : H p3 = none := s1.free hp
      have hd0 : H d = none := s1.free (sa.free nd)
      have hm : ∀ x ∈ [w0, w1], x.length < sizeLine := fun x hx => by have := wl x hx; omega
      have bad : (numIn w0 = none ∨ numIn w1 = none) → ∀ H', Same H H' → Bad K E .text H' := fun h => k0 .text (by
        rw [fm, if_neg (fun z => z rfl)]
        show (match numIn w0 with
          | none => .error .text
          | some k => match numIn w1 with
            | none => .error .text
            | some c => putsM ⟨[], c, k⟩ rs : Except Er Wd) = _
        rcases h with h | h
        · rw [h]
        · rw [h]
          cases numIn w0 <;> rfl)
      refine ⟨rfl, lcX (l := [w0, w1]) V.str (fun x => (numIn x).map V.int) (fun R h => ?_) (by show 2 < _; omega) (fun x H3 hx s3 N1 h1 => ?_) (fun _ _ _ _ h => h _ _) (fun _ _ _ _ _ h => h _ _) (fun D H3 nD s3 al eD => ?_)⟩
      · walk_at "rd"
        exact h p H2 (Same.refl _) (SqL.of (s12 _ _ e1))
      · walk_at "rd"
        refine ⟨x, rfl, hm x hx, fun n hn H4 s4 => h1 _ _ s4 (by rw [hn]; rfl), fun hn H4 s4 => bad ?_ _ (s02.trans (s3.trans s4))⟩
        have hx : x = w0 ∨ x = w1 := by simpa using hx
        rcases hx with rfl | rfl
        · exact .inl hn
        · exact .inr hn
      · obtain ⟨v0, hv0⟩ := Option.isSome_iff_exists.mp (al w0 (by simp))
        obtain ⟨v1, hv1⟩ := Option.isSome_iff_exists.mp (al w1 (by simp))
        obtain ⟨k, hk, rfl⟩ := Option.map_eq_some_iff.mp hv0
        obtain ⟨c, hc, rfl⟩ := Option.map_eq_some_iff.mp hv1
        have eD : H3 D = some (.lst [.int k, .int c]) := by
          rw [eD]
          simp [hk, hc]
        have fm : filledM (r0 :: rs) = putsM ⟨[], c, k⟩ rs := by
          rw [fm, if_neg (fun z => z rfl)]
          show (match numIn w0 with
            | none => .error .text
            | some k => match numIn w1 with
              | none => .error .text
              | some c => putsM ⟨[], c, k⟩ rs : Except Er Wd) = _
          rw [hk, hc]
        refine ⟨D, _, rfl, SqL.of eD, rfl, ?_⟩
        walk_at "rd"
        have W3 := W2.same s3
        unfold gFld
        walk_at "rd"
        refine ⟨_, _, _, W3.top, T.c_Wood.c, T.n_Wood_clock, by rw [fw_len]; decide, ?_⟩
        rw [fpw_clock]
        have s03 := s02.trans s3
        have W4 := W3.setTop 0 k
        have s4 : Same H (upd H3 p3 (.ins (cW K) dx (woodFs d 0 k))) := s03.over hp0
        change WoodAt K (upd H3 p3 (.ins (cW K) dx (woodFs d 0 k))) ⟨p3, dx, d, [], 0, k⟩ at W4
        generalize hH4 : upd H3 p3 (.ins (cW K) dx (woodFs d 0 k)) = H4 at W4 s4
        refine ⟨_, _, _, W4.top, T.c_Wood.c, T.n_Wood_came, by rw [fw_len]; decide, ?_⟩
        rw [fpw_came]
        have W5 := W4.setTop c k
        have s5 : Same H (upd H4 p3 (.ins (cW K) dx (woodFs d c k))) := s4.over hp0
        change WoodAt K (upd H4 p3 (.ins (cW K) dx (woodFs d c k))) ⟨p3, dx, d, [], c, k⟩ at W5
        generalize hH5 : upd H4 p3 (.ins (cW K) dx (woodFs d c k)) = H5 at W5 s5
        have f5 : ∀ b ∈ foot ⟨p3, dx, d, [], c, k⟩, H b = none := fun b hb => by
          have hb : b = p3 ∨ b = d := by simpa [foot] using hb
          rcases hb with rfl | rfl
          · exact hp0
          · exact hd0
        refine forN2 (l := rs) V.str (fun R h => ?_) (fun q1 i σ' H' => H' q1 = some (.lst (rs.map V.str)) ∧ ∃ (L : Lay) (x3 : Option V), σ' = [some (.ref q), some (.ref p), some (.ref p3), x3, none] ∧ WoodAt K H' L ∧ Wf L.rows ∧ L.p = p3 ∧ Same H H' ∧ L.ents.length ≤ i ∧ (∀ b ∈ foot L, H b = none) ∧ putsM L.wd (rs.drop i) = filledM (r0 :: rs))
          (fun q1 H6 n6 s6 e6 => ⟨e6, _, _, rfl, W5.same s6, ⟨List.Pairwise.nil, by simp [Lay.rows], by simp [Lay.rows], by simp [Lay.rows], by simp [Lay.rows]⟩, rfl, s5.trans s6, Nat.zero_le _, f5, fm.symm⟩) (fun q1 i σ' H' _ h => SqL.of h.1) (fun q1 i r σ' H6 D' hi h6 nx ct rt _ => ?_) (fun q1 σ' H6 h6 => ?_)
        · walk_at "rd"
          refine ⟨q, _, rfl, s5.seq hq, ?_⟩
          · have ecut : cutV (List.map V.str (r0 :: rs)) (some 1) none = rs.map V.str := by
              unfold cutV
              have z1 : HT.sIx (List.map V.str (r0 :: rs)).length 0 (some 1) = 1 := by
                have := HT.sIx_nat (List.map V.str (r0 :: rs)).length 0 1
                rw [Nat.min_eq_left (by simp only [List.length_map, List.length_cons]; omega)] at this
                exact this
              rw [z1, HT.sIx_none, List.take_of_length_le]
              · rfl
              · rw [List.length_drop]
                omega
            rw [ecut]
            exact h
        · obtain ⟨e6, L, x3, rfl, W6, F6, ep, s6, l6, f6, hm6⟩ := h6
          walk_at "rd"
          have hr_ := lr r (List.mem_cons_of_mem _ (List.mem_of_getElem? hi))
          have il : i < rs.length := (List.getElem?_eq_some_iff.mp hi).1
          have edr : rs.drop i = r :: rs.drop (i + 1) := by
            rw [List.drop_eq_getElem_cons il]
            have := (List.getElem?_eq_some_iff.mp hi).2
            rw [this]
          rw [edr] at hm6
          simp only [List.length_cons] at ln
          refine ⟨L, r, by rw [ep], W6, F6, by omega, hr_, fun M hM H7 L7 W7 e7 st7 => ?_, fun e he H7 k7 => k0 e ?_ H7 ?_⟩
          · have q1f : q1 ∉ foot L := fun z => not_lst _ (foot_obj W6 z e6)
            have w7 := putM_wf F6 hM
            refine nx _ _ ⟨st7.keep _ _ q1f e6, L7, _, rfl, W7, ?_, st7.p.trans ep, fun b o e => st7.keep b o (fun z => by rw [f6 b z] at e; cases e) (s6 b o e), ?_, fun b hb => ?_, ?_⟩
            · show Wf L7.wd.rows
              rw [e7]
              exact w7.1
            · have h1 := w7.2.1
              rw [← e7] at h1
              have h2 : L7.rows.length = L.rows.length + 1 := h1
              rw [← L7.elen, ← L.elen] at h2
              omega
            · rcases st7.new b hb with z | z
              · exact f6 b z
              · exact s6.free z
            · rw [← hm6, putsM_cons hM, e7]
          · rw [← hm6]
            exact putsM_bad he
          · exact fun b o e => k7 b o (fun z => by rw [f6 b z] at e; cases e) (s6 b o e)
        · obtain ⟨e6, L, x3, rfl, W6, F6, ep, s6, l6, f6, hm6⟩ := h6
          walk_at "rd"
          rw [List.drop_length] at hm6
          rw [← ep]
          exact k1 L.wd hm6.symm H6 L W6 rfl F6 s6 f6
    · have c2 := of_decide_eq_false c2
      rw [fm, if_pos (fun z => c2 (by omega))]
end
end Vw
namespace Vw
open PySem PySem.Spec PyProof.Rows L2
local macro_rules | `(tactic| walk_at "rd") => `(tactic| simp only [tSeq, tNext, tIfS, tAsg, tRet, tRetN, tDrop, tVar, tC, tOp, tUn, tTest, tB, tAnd, tOr, tNot, tAndV, tOrV, tNotV, tIf, tChain, tCB, tCons, tNil, tCall, tMeth, tMake, tFld, sFld, tTup, tLst, tTupS, tLstS, tDNewKS, tDNewTS, tTold, tCmp, t2I, tIsN, tNotN, tPar, gName, gNil, gCons, gTup, gSub, rI0, rU, rEq, rNe, tDGet, tDIn, tDNotIn, sDPut, tDNewK, tDGet1, tDGet2, tDPop1, tDPop2, tBM, tBM0, tM0, tM1, tSl, tPart, tNoPart, tBreak, tCont, tThru, L2.start, List.map_cons, List.map_nil, List.length_cons, List.length_nil, List.cons_append, List.nil_append, List.append_nil, List.replicate_succ, List.replicate_zero, Nat.reduceAdd, Nat.reduceSub, Nat.zero_add, List.getElem?_cons_zero, List.getElem?_cons_succ, List.set_cons_zero, List.set_cons_succ, wipe, cxOf_K, tYes, List.cons.injEq, and_self, Option.some.injEq, V.int.injEq, V.bl.injEq, V.ref.injEq, V.str.injEq, exists_eq_left', exists_eq_left, exists_and_left, and_assoc, true_and, and_true, if_true, if_false, ite_true, ite_false, Bool.not_true, Bool.not_false, Bool.false_eq_true, reduceIte])
def timeR (rs : Rows) (u : Int) : Int := match findR rs u with
  | some r => r.time
  | none => 0
def rowOk (rs : Rows) (p : Int × Row) : Bool := !(decide (p.1 ≤ p.2.under) || (decide (p.2.under ≠ 0) && decide (p.2.time < timeR rs p.2.under))) && !(p.2.struck && decide (sortI (repliesR rs p.1) = []))
def timesR (rs : Rows) : List Int := (sortI (rs.map (·.1))).map (timeR rs)
def rightM (M : Wd) (text : Str) : Bool := decide (M.rows.length ≤ 60) && isCount (.int M.came) 0 999999999 && !(decide (M.rows.length = 60) && decide (∀ p ∈ M.rows, p.1 < M.came)) && M.rows.all (rowOk M.rows) && decide (timesR M.rows = sortI (timesR M.rows)) && decide (writtenM M = text)
section
variable {P : Program} {w : World} {K : PySem.W.Frag} {mg : Str → Option Value} {base : Heap}
/-- a wood whose rows may be locked -/
structure WoodLk (K : PySem.W.Frag) (H : Hp) (L : Lay) : Prop where
  top : H L.p = some (.ins (cW K) L.dx (woodFs L.d L.came L.clock))
  dic : Rd H L.d (.dK (L.ents.map entK))
  say : ∀ e ∈ L.ents, SayAt K H e.a e.x e.v e.row
  nk : (L.ents.map (·.n)).Nodup
theorem WoodLk.same {H H' : Hp} {L : Lay} (W : WoodLk K H L) (s : Same H H') : WoodLk K H' L := ⟨s _ _ W.top, W.dic.imp (s _ _) (fun ⟨od, h⟩ => ⟨od, s _ _ h⟩), fun e he => (W.say e he).same s, W.nk⟩
theorem WoodLk.fsay {R : V → Prop} {H : Hp} {L : Lay} (W : WoodLk K H L) (T : Txt K mg base) (q : R (.ref L.d)) : ∃ C dx fs, H L.p = some (.ins C dx fs) ∧ Cls K C ∧ NoAttr K C "sayings" ∧ ∃ v, fs.lookup (Str.ofString "sayings") = some v ∧ R v := fld W.top T.c_Wood.c T.n_Wood_sayings (fw_sayings _ _ _) q
theorem WoodLk.at {R : V → Prop} {H : Hp} {L : Lay} (W : WoodLk K H L) {n : Int} {e : Ent} (he : findE L.ents n = some e) (q : R (.ref e.a)) : ∃ a, V.ref L.d = V.ref a ∧ ∃ x, DGet H a (.int n) (some x) ∧ R x :=
  ⟨_, rfl, _, .inl ⟨_, Sum.inl n, W.dic, rfl, by rw [valE, he]; rfl⟩, q⟩
def spNumbersL (K : PySem.W.Frag) : Sp := fun vs H Q _ => ∃ L : Lay, vs = [.ref L.p] ∧ WoodLk K H L ∧ L.ents.length < 64 ∧ ∀ p H', H p = none → Same H H' → H' p = some (.lst ((sortI (L.ents.map (·.n))).map V.int)) → Q (.ref p) H'
theorem D_Wood_numbersL (T : Txt K mg base) : Def P w K mg base 1 (He.ma K (He.ga K "Wood") "numbers") ["self"] (spNumbersL K) := by
  refine mk_def T.f_Wood_numbers sc_Wood_numbers be_Wood_numbers (fun vs H Q E h => ?_) (fun cdv A outer s H vs Q E hr h => ?_)
  · obtain ⟨L, rfl, _⟩ := h
    rfl
  · obtain ⟨L, rfl, W, hl, k⟩ := h
    refine ⟨_, (pss_one (ps_ret (pe_callB (call_sortedDI rfl) (by rfl) T.b_sorted (by decide +kernel) (pa_cons (pe_fld (pv 0) (by rfl)) pa_nil)))), ?_⟩
    walk_at "rd"
    refine W.fsay T ⟨_, rfl, _, W.dic, L.ents.map (·.n), ?_, by simpa using hl, fun ys p hp hs hn => ?_⟩
    · simp [entK]
    · rw [sortI_eq hp hs]
      exact k p _ hn (Same.new hn) upd_same
def spRepliesL (K : PySem.W.Frag) : Sp := fun vs H Q E => ∃ (L : Lay) (n : Int), vs = [.ref L.p, .int n] ∧ WoodLk K H L ∧ L.ents.length < 64 ∧ ∀ p H', H p = none → Same H H' → H' p = some (.lst ((sortI (repliesR L.rows n)).map V.int)) → Q (.ref p) H'
theorem D_Wood_repliesL (T : Txt K mg base) : Def P w K mg base 2 (He.ma K (He.ga K "Wood") "replies") ["self", "number"] (spRepliesL K) := by
  refine mk_def T.f_Wood_replies sc_Wood_replies be_Wood_replies (fun vs H Q E h => ?_) (fun cdv A outer s H vs Q E hr h => ?_)
  · obtain ⟨L, n, rfl, _⟩ := h
    rfl
  · obtain ⟨L, n, rfl, W, hl, k⟩ := h
    refine ⟨_, (pss_one (ps_ret (pe_lc (own := [("one", 2)]) (g := gName 2) rfl sc_Wood_replies.nd (pi_list (pe_md0 (pv 0) T.c_Wood.c T.m_Wood_numbers (D_Wood_numbersL T) (by exact hr.mono (by first | decide | omega)) passE)) (blkOk_by (N := N_Wood_replies) (sc := defScope s_Wood_replies) (by decide +kernel)) (fun _ _ _ _ _ => by exact (pg_name (i := 2) sc_Wood_replies.nd rfl (Or.inl rfl))) (fun _ _ _ _ _ => by exact (pts_one (pt_cmpR op_eq (pe_fldK K (pe_dg (pe_fldK K (pv 0)) (pv 2) (by exact hu_of hr))) (pv 1) (nomark _)))) (fun _ _ _ _ _ => by exact (pv 2))))), ?_⟩
    walk_at "rd"
    refine lcL (l := sortI (L.ents.map (·.n))) V.int (fun m => if upR L.rows m = n then some (.int m) else none) (fun R r => ?_) (by rw [sortI_length, List.length_map, sizeLine_eq]; omega) (fun m H' hm s1 N1 N0 q1 q0 => ?_) (fun D H' hD s1 e => k D H' hD s1 ?_)
    · walk_at "rd"
      exact ⟨_, _, W.top, fw_no _ _ _ (by decide) (by decide) (by decide), L, rfl, W, hl, fun p H' hp s1 e => r p H' s1 (SqL.of e)⟩
    · have W1 := W.same s1
      obtain ⟨e, he, rfl⟩ : ∃ e, e ∈ L.ents ∧ e.n = m := by
        have := (sortI_perm _).mem_iff.mp hm
        simpa using this
      have fe := findE_of W.nk he
      have S := W1.say e he
      have eu : upR L.rows e.n = e.row.under := by unfold upR; rw [L.find, fe]; rfl
      walk_at "rd"
      refine W1.fsay T (W1.at fe ⟨_, rfl, S.funder T ⟨rfl, ?_⟩⟩)
      by_cases c : e.row.under = n
      · rw [decide_eq_true (show V.int e.row.under = V.int n by rw [c])]
        exact iteT (q1 _ _ (Same.refl _) (if_pos (eu.trans c)))
      · rw [decide_eq_false (show ¬ V.int e.row.under = V.int n from fun z => c (V.int.inj z))]
        exact iteF (q0 _ (Same.refl _) (if_neg fun z => c (eu.symm.trans z)))
    · rw [e, filterMap_if, filter_sortI]
      have : (L.ents.map (·.n)).filter (fun m => decide (upR L.rows m = n)) = repliesR L.rows n := by
        unfold repliesR Lay.rows
        rw [List.filter_map, List.filter_map, List.map_map]
        show List.map _ _ = List.map _ _
        congr 1
        apply List.filter_congr
        intro e he
        show decide (upR L.rows e.n = n) = decide (e.row.under = n)
        have fe := findE_of W.nk he
        have eu : upR L.rows e.n = e.row.under := by unfold upR; rw [L.find, fe]; rfl
        rw [eu]
      rw [this]
def spIsRight (K : PySem.W.Frag) : Sp := fun vs H Q _ => ∃ (L : Lay) (z : Str), vs = [.ref L.p, .str z] ∧ WoodAt K H L ∧ (L.rows.length ≤ 60 → Good L.wd) ∧ Wf L.rows ∧ WrOk L.wd ∧ ∀ H', Same H H' → Q (.bl (rightM L.wd z)) H'
abbrev N_is_right : List Str := ["wood", "text", "number", "times", "one"]
theorem sc_is_right : FnScope N_is_right ["wood", "text"] (defScope s_is_right) := ⟨rfl, rfl, rfl, by decide +kernel, rfl, by decide +kernel, by decide +kernel⟩
theorem be_is_right : BindEq "is_right" "is_right" s_is_right ["wood", "text"] := fun _ _ _ _ _ _ us hl => match us, hl with | [_, _], _ => rfl
theorem D_is_right (T : Txt K mg base) : Def P w K mg base 3 (He.ga K "is_right") ["wood", "text"] (spIsRight K) := by
  refine mk_def T.f_is_right sc_is_right be_is_right (fun vs H Q E h => ?_) (fun cdv A outer s H vs Q E hr h => ?_)
  · obtain ⟨L, z, rfl, _⟩ := h
    rfl
  · obtain ⟨L, z, rfl, W, hG, F, wo, k⟩ := h
    refine ⟨_, (pss_cons (ps_if (PW.pt (pw_or (pt_cmpR op_gt (pe_callB call_lenD (by rfl) T.b_len (by decide +kernel) (pa_cons (pe_fld (pv 0) (by rfl)) pa_nil)) pe_int (nomark _)) (pw_or1 (pt_not (pt_val (pe_cd (D_is_count T) (by exact hr.mono (by first | decide | omega)) T.g_is_count passE (pa_cons (pe_fld (pv 0) (by rfl)) (pa_cons pe_int (pa_cons pe_int pa_nil))))))))) (pss_one (ps_ret pe_bl)) pss_nil)
      (C8.pss_cut (ps_if (PW.pt (pw_and (pt_cmpR op_eq (pe_callB call_lenD (by rfl) T.b_len (by decide +kernel) (pa_cons (pe_fld (pv 0) (by rfl)) pa_nil)) pe_int (nomark _)) (pw_and1 (pt_cmpR op_gt (pe_fld (pv 0) (by rfl)) (pe_callB (cr_maxK rfl) (by rfl) T.b_max (by decide +kernel) (pa_cons (pe_fld (pv 0) (by rfl)) pa_nil)) (nomark _))))) (pss_one (ps_ret pe_bl)) pss_nil)
      (pss_cons (ps_lock (ps_for ownE rfl (pi_keys (pe_fld (pv 0) (by rfl))) (pg_name (i := 2) sc_is_right.nd rfl (Or.inl rfl))
      (pss_cons (ps_set (i := 4) sc_is_right.nd rfl (Or.inl rfl) (pe_dg (pe_fld (pv 0) (by rfl)) (pv 2) (by exact hu_of hr)))
      (C8.pss_cut (ps_if (PW.pt (pw_or (pt_cmpR op_ge (pe_fld (pv 4) (by rfl)) (pv 2) (nomark _)) (pw_or1 (PW.pt (pw_and (pt_cmpR op_ne (pe_fld (pv 4) (by rfl)) pe_int (nomark _)) (pw_and1 (pt_cmpR op_gt (pe_fld (pe_dg (pe_fld (pv 0) (by rfl)) (pe_fld (pv 4) (by rfl)) (by exact hu_of hr)) (by rfl)) (pe_fld (pv 4) (by rfl)) (nomark _)))))))) (pss_one (ps_ret pe_bl)) pss_nil)
      (pss_one (ps_if (PW.pt (pw_and (pt_val (pe_fld (pv 4) (by rfl))) (pw_and1 (pt_eqd (pe_md (pv 0) T.c_Wood.c T.m_Wood_replies (D_Wood_repliesL T) (by exact hr.mono (by first | decide | omega)) passE (pa_cons (pv 2) pa_nil)) (pe_lstS pa_nil) (by exact hr.units))))) (pss_one (ps_ret pe_bl)) pss_nil))))))
      (pss_cons (ps_setLc (i := 3) (own := [("number", 2)]) (g := gName 2) rfl sc_is_right.nd rfl rfl (sw_true rfl rfl rfl (by decide +kernel)) (pi_list (pe_md0 (pv 0) T.c_Wood.c T.m_Wood_numbers (D_Wood_numbers T) (by exact hr.mono (by first | decide | omega)) passE)) (blkOk_by (N := N_is_right) (sc := defScope s_is_right) (by decide +kernel)) (fun _ _ _ _ _ => by exact (pg_name (i := 2) sc_is_right.nd rfl (Or.inl rfl))) (fun _ _ _ _ _ => pts_nil) (fun _ _ _ _ _ => by exact (pe_fldK K (pe_dg (pe_fldK K (pv 0)) (pv 2) (by exact hu_of hr)))))
      (pss_one (ps_ret (pe_and (pe_eqd (pv 3) (pe_callB cr_sortedN (by rfl) T.b_sorted (by decide +kernel) (pa_cons (pv 3) pa_nil)) (by exact hr.units)) (pe_one (pe_cmpR op_eq (pe_cd (D_written T) (by exact hr.mono (by first | decide | omega)) T.g_written passE (pa_cons (pv 0) pa_nil)) (pv 1) (nomark _)))))))))), ?_⟩
    walk_at "rd"
    have le := L.elen
    have er : L.wd.rows = L.rows := rfl
    refine W.fsay T ⟨_, rfl, _, W.dic, ?_⟩
    rw [List.length_map]
    by_cases c1 : L.rows.length ≤ 60
    · rw [decide_eq_false (show ¬ (60 : Int) < (L.ents.length : Int) by omega)]
      have G := hG c1
      refine iteF (W.fcame T ⟨_, .int L.came, _, _, rfl, .int _, _, rfl, ?_⟩)
      cases c2 : isCount (.int L.came) 0 999999999 with
      | false =>
        refine iteT ?_
        have : rightM L.wd z = false := by
          unfold rightM
          rw [show isCount (.int L.wd.came) 0 999999999 = false from c2]
          simp
        rw [← this]
        exact k H (Same.refl _)
      | true =>
        refine iteF ⟨fun σ' H' => H' = H ∧ σ' = [some (.ref L.p), some (.str z), none, none, none] ∧ (decide (L.wd.rows.length = 60) && decide (∀ p ∈ L.wd.rows, p.1 < L.wd.came)) = false, ?_, ?_⟩
        · walk_at "rd"
          refine W.fsay T ⟨_, rfl, _, W.dic, rfl, ?_⟩
          rw [List.length_map]
          by_cases c3 : L.ents.length = 60
          · rw [decide_eq_true (show (L.ents.length : Int) = 60 by omega)]
            refine iteT (W.fcame T (W.fsay T ⟨_, _, L.ents.map (·.n), rfl, .inl W.dic, ?_, ?_, fun m hm hx => ?_⟩))
            · simp [entK]
            · rw [List.length_map]
              omega
            · refine ⟨_, rfl, _, rfl, ?_⟩
              have e60 : L.wd.rows.length = 60 := by show L.rows.length = 60; omega
              by_cases c4 : m < L.came
              · rw [decide_eq_true c4]
                have : rightM L.wd z = false := by
                  unfold rightM
                  rw [decide_eq_true e60, decide_eq_true (show ∀ p ∈ L.wd.rows, p.1 < L.wd.came from fun p hp => by
                    have := hx p.1 (by rw [L.keys]; exact List.mem_map.mpr ⟨p, hp, rfl⟩)
                    show p.1 < L.came
                    omega)]
                  simp
                refine iteT ?_
                rw [← this]
                exact k H (Same.refl _)
              · rw [decide_eq_false c4]
                refine iteF ?_
                rw [decide_eq_false (show ¬ ∀ p ∈ L.wd.rows, p.1 < L.wd.came from fun q => by
                  rw [L.keys] at hm
                  obtain ⟨p, hp, e⟩ := List.mem_map.mp hm
                  have := q p hp
                  rw [e] at this
                  exact c4 this)]
                exact ⟨rfl, Bool.and_false _⟩
          · rw [decide_eq_false (show ¬ (L.ents.length : Int) = 60 by omega)]
            refine iteF ?_
            rw [decide_eq_false (show ¬ L.wd.rows.length = 60 from fun q => c3 (by rw [le]; exact q))]
            first
            | exact ⟨rfl, rfl⟩
            | rfl
        · rintro σ' H' ⟨rfl, rfl, c3⟩
          walk_at "rd"
          have npd : L.p ≠ L.d := ne_of W.top W.dic (by intro q; cases q)
          have lk : ∀ {od : Obj} {H2 : Hp}, H2 L.d = some (.frz od (.dK (L.ents.map entK))) → (∀ b o, b ≠ L.d → H' b = some o → H2 b = some o) → WoodLk K H2 L := fun {od H2} hd kp => by
            refine ⟨kp _ _ npd W.top, .inr ⟨od, hd⟩, fun e he => ?_, W.nk⟩
            have S := W.say e he
            exact ⟨kp _ _ (ne_of S.o W.dic (by intro q; cases q)) S.o, kp _ _ (W.dv e he) S.d, S.nd, S.sz⟩
          have back : ∀ {H2 : Hp}, (∀ b o, b ≠ L.d → H' b = some o → H2 b = some o) → Same H' (upd H2 L.d (.dK (L.ents.map entK))) := fun {H2} kp b o e => by
            by_cases c : b = L.d
            · rw [c, upd_same, ← W.dic, ← c]
              exact e
            · rw [upd_ne c]
              exact kp b o c e
          have ret : ∀ {H2 : Hp} {e : Ent}, (∀ b o, b ≠ L.d → H' b = some o → H2 b = some o) → e ∈ L.ents → rowOk L.rows (e.n, e.row) = false → Q (.bl false) (upd H2 L.d (.dK (L.ents.map entK))) := fun {H2 e} kp he ho => by
            have : rightM L.wd z = false := by
              unfold rightM
              rw [show L.wd.rows.all (rowOk L.wd.rows) = false from List.all_eq_false.mpr ⟨(e.n, e.row), List.mem_map.mpr ⟨e, he, rfl⟩, by rw [er, ho]; decide⟩]
              simp
            rw [← this]
            exact k _ (back kp)
          refine forK (l := L.ents) entK W.dic (fun H2 R kp h => ?_) (fun od i σ' H2 => H2 L.d = some (.frz od (.dK (L.ents.map entK))) ∧ (∀ b o, b ≠ L.d → H' b = some o → H2 b = some o) ∧ (∃ x2 x4 : Option V, σ' = [some (.ref L.p), some (.str z), x2, none, x4]) ∧ ∀ e ∈ L.ents.take i, rowOk L.rows (e.n, e.row) = true)
            (fun od H2 u1 u2 hd => ⟨hd, u1, ⟨_, _, rfl⟩, by simp⟩) (fun od i σ' H2 _ h => h.1) (fun od i e σ' H2 D' hi h nx ct rt => ?_) (fun od σ' H2 h => ?_)
          · walk_at "rd"
            exact fld (kp _ _ npd W.top) T.c_Wood.c T.n_Wood_sayings (fw_sayings _ _ _) h
          · obtain ⟨hd, kp, ⟨x2, x4, rfl⟩, al⟩ := h
            have he := List.mem_of_getElem? hi
            have fe := findE_of W.nk he
            have L2 := lk hd kp
            have S := L2.say e he
            show gName 2 (V.int e.n) _ _ _
            walk_at "rd"
            refine L2.fsay T (L2.at fe ?_)
            have stuck : ∀ {b : Bool}, rowOk L.rows (e.n, e.row) = b → b = false → D'.rt (.bl false) H2 := fun {b} h1 h2 => rt _ _ hd (ret kp he (h1.trans h2))
            refine ⟨fun σ' H3 => H3 = H2 ∧ σ' = [some (.ref L.p), some (.str z), some (.int e.n), none, some (.ref e.a)] ∧ (decide (e.n ≤ e.row.under) || (decide (e.row.under ≠ 0) && decide (e.row.time < timeR L.rows e.row.under))) = false, ?_, ?_⟩
            · walk_at "rd"
              refine S.funder T ⟨_, rfl, ?_⟩
              by_cases a1 : e.n ≤ e.row.under
              · rw [decide_eq_true a1]
                refine iteT (stuck rfl ?_)
                unfold rowOk
                rw [show decide ((e.n, e.row).1 ≤ (e.n, e.row).2.under) = true from decide_eq_true a1]
                rfl
              · rw [decide_eq_false a1]
                refine iteF (S.funder T ⟨rfl, ?_⟩)
                by_cases a2 : e.row.under = 0
                · rw [decide_eq_true (show V.int e.row.under = V.int 0 by rw [a2])]
                  refine iteF ?_
                  simp [a2]
                · rw [decide_eq_false (show ¬ V.int e.row.under = V.int 0 from fun q => a2 (V.int.inj q))]
                  have fr : findR L.rows e.n = some e.row := by rw [L.find, fe]; rfl
                  obtain ⟨e', fe'⟩ : ∃ e', findE L.ents e.row.under = some e' := by
                    rcases F.has _ (findR_mem fr) with q | ⟨r, q⟩
                    · exact absurd q a2
                    · rw [L.find] at q
                      cases q2 : findE L.ents e.row.under with
                      | none => rw [show (e.n, e.row).2.under = e.row.under from rfl, q2] at q; cases q
                      | some e' => exact ⟨e', rfl⟩
                  have S' := L2.say e' (findE_mem fe').1
                  have et : timeR L.rows e.row.under = e'.row.time := by
                    unfold timeR
                    rw [L.find, fe']
                    rfl
                  refine iteT (L2.fsay T (S.funder T (L2.at fe' ⟨_, rfl, S'.ftime T (S.ftime T ⟨_, rfl, _, rfl, ?_⟩)⟩)))
                  rw [decide_eq_true (show e.row.under ≠ 0 from a2), et]
                  by_cases a3 : e.row.time < e'.row.time
                  · rw [decide_eq_true a3]
                    refine iteT (stuck rfl ?_)
                    unfold rowOk
                    rw [show decide ((e.n, e.row).2.under ≠ 0) = true from decide_eq_true a2, show timeR L.rows (e.n, e.row).2.under = e'.row.time from et, show decide ((e.n, e.row).2.time < e'.row.time) = true from decide_eq_true a3]
                    simp
                  · rw [decide_eq_false a3]
                    exact iteF rfl
            · rintro σ' H3 ⟨rfl, rfl, a1⟩
              walk_at "rd"
              have tk : L.ents.take (i + 1) = L.ents.take i ++ [e] := by rw [List.take_add_one, hi]; rfl
              have on : ∀ {H4 : Hp}, Same H3 H4 → rowOk L.rows (e.n, e.row) = true → D'.nx [some (.ref L.p), some (.str z), some (.int e.n), none, some (.ref e.a)] H4 := fun {H4} s4 ho => nx _ _ ⟨s4 _ _ hd, fun b o hb h => s4 _ _ (kp b o hb h), ⟨_, _, rfl⟩, fun e' he' => by
                rw [tk] at he'
                rcases List.mem_append.mp he' with q | q
                · exact al e' q
                · cases List.mem_singleton.mp q
                  exact ho⟩
              have eok : rowOk L.rows (e.n, e.row) = !(e.row.struck && decide (sortI (repliesR L.rows e.n) = [])) := by
                unfold rowOk
                show (!(decide (e.n ≤ e.row.under) || (decide (e.row.under ≠ 0) && decide (e.row.time < timeR L.rows e.row.under))) && _) = _
                rw [a1]
                rfl
              refine S.fstruck T ⟨_, rfl, ?_⟩
              cases hs : e.row.struck with
              | false =>
                refine iteF (on (Same.refl _) ?_)
                rw [eok, hs]
                rfl
              | true =>
                refine iteT ⟨_, _, L2.top, fw_no _ _ _ (by decide) (by decide) (by decide), L, e.n, rfl, L2, by omega, fun p4 H4 n4 s4 e4 => ⟨by omega, fun p5 H5 n5 s5 e5 => ?_⟩⟩
                refine use_eqD (dp_ints (s5 _ _ e4)) (dp_ints (ns := []) e5) (shaped_ints _) (shaped_ints _) ?_
                rw [eqv_ints]
                refine ⟨_, rfl, ?_⟩
                rw [hs] at eok
                cases hd2 : decide (sortI (repliesR L.rows e.n) = []) with
                | false =>
                  rw [hd2] at eok
                  exact iteF (on (s4.trans s5) eok)
                | true =>
                  rw [hd2] at eok
                  refine iteT (rt _ _ ((s4.trans s5) _ _ hd) (ret (fun b o hb h => (s4.trans s5) _ _ (kp b o hb h)) he eok))
          · obtain ⟨hd, kp, ⟨x2, x4, rfl⟩, al⟩ := h
            rw [List.take_of_length_le (Nat.le_refl _)] at al
            have s3 := back kp
            have W3 := W.same s3
            generalize upd H2 L.d (.dK (L.ents.map entK)) = H3 at s3 W3
            have all_ : L.wd.rows.all (rowOk L.wd.rows) = true := List.all_eq_true.mpr fun p hp => by
              obtain ⟨e, he, rfl⟩ := List.mem_map.mp hp
              exact al e he
            walk_at "rd"
            have fin : ∀ {b : Bool}, (decide (timesR L.rows = sortI (timesR L.rows)) && decide (writtenM L.wd = z)) = b → rightM L.wd z = b := fun {b} h => by
              unfold rightM
              rw [decide_eq_true (show L.wd.rows.length ≤ 60 from c1), show isCount (.int L.wd.came) 0 999999999 = true from c2, c3, all_, ← h]
              rfl
            refine lcL (l := sortI (L.ents.map (·.n))) V.int (fun m => some (.int (timeR L.rows m))) (fun R r => ?_) (by rw [sortI_length, List.length_map, sizeLine_eq]; omega) (fun m H4 hm s4 N1 N0 q1 q0 => ?_) (fun D H4 nD s4 eD => ?_)
            · walk_at "rd"
              exact ⟨_, _, W3.top, fw_no _ _ _ (by decide) (by decide) (by decide), L, rfl, W3, by omega, fun p H' hp s1 e => r p H' s1 (SqL.of e)⟩
            · have W4 := W3.same s4
              obtain ⟨e, he, rfl⟩ : ∃ e, e ∈ L.ents ∧ e.n = m := by
                have := (sortI_perm _).mem_iff.mp hm
                simpa using this
              have fe := findE_of W.nk he
              have S := W4.say e he
              walk_at "rd"
              refine W4.fsay T (W4.at fe ⟨_, rfl, S.ftime T (q1 _ _ (Same.refl _) ?_)⟩)
              have et : timeR L.rows e.n = e.row.time := by
                unfold timeR
                rw [L.find, fe]
                rfl
              exact congrArg (fun x => some (V.int x)) et
            · have eD : H4 D = some (.lst ((timesR L.rows).map V.int)) := by
                rw [eD, List.filterMap_eq_map', L.keys]
                unfold timesR
                rw [List.map_map]
                rfl
              have tl : (timesR L.rows).length < 64 := by
                unfold timesR
                rw [List.length_map, sortI_length, List.length_map]
                omega
              refine ⟨D, timesR L.rows, rfl, SqL.of eD, tl, fun ns hp hs p5 H5 n5 s5 e5 => ?_⟩
              rw [sortI_eq hp hs] at e5
              refine use_eqD (dp_ints (s5 _ _ eD)) (dp_ints e5) (shaped_ints _) (shaped_ints _) ?_
              rw [eqv_ints]
              refine ⟨_, rfl, ?_⟩
              have s05 := s3.trans (s4.trans s5)
              cases hd2 : decide (timesR L.rows = sortI (timesR L.rows)) with
              | false =>
                refine iteF ?_
                have := fin (b := false) (by rw [hd2]; rfl)
                rw [← this]
                exact k _ s05
              | true =>
                refine iteT ⟨L, rfl, W.same s05, G, wo, fun H6 s6 => ⟨rfl, ?_⟩⟩
                have := fin (b := decide (V.str (writtenM L.wd) = V.str z)) (by
                  rw [hd2, Bool.true_and]
                  exact decide_eq_decide.mpr ⟨fun h => by rw [h], fun h => V.str.inj h⟩)
                rw [← this]
                exact k _ (s05.trans s6)
    · rw [decide_eq_true (show (60 : Int) < (L.ents.length : Int) by omega)]
      have : rightM L.wd z = false := by
        unfold rightM
        rw [decide_eq_false (show ¬ L.wd.rows.length ≤ 60 from c1)]
        simp
      refine iteT ?_
      rw [← this]
      exact k H (Same.refl _)
end
end Vw
namespace Vw
open PySem PySem.Spec PyProof.Rows L2
local macro_rules | `(tactic| walk_at "rd") => `(tactic| simp only [tSeq, tNext, tIfS, tAsg, tRet, tRetN, tDrop, tVar, tC, tOp, tUn, tTest, tB, tAnd, tOr, tNot, tAndV, tOrV, tNotV, tIf, tChain, tCB, tCons, tNil, tCall, tMeth, tMake, tFld, sFld, tTup, tLst, tTupS, tLstS, tDNewKS, tDNewTS, tTold, tCmp, t2I, tIsN, tNotN, tPar, gName, gNil, gCons, gTup, gSub, rI0, rU, rEq, rNe, tDGet, tDIn, tDNotIn, sDPut, tDNewK, tDGet1, tDGet2, tDPop1, tDPop2, tBM, tBM0, tM0, tM1, tSl, tPart, tNoPart, tBreak, tCont, tThru, L2.start, List.map_cons, List.map_nil, List.length_cons, List.length_nil, List.cons_append, List.nil_append, List.append_nil, List.replicate_succ, List.replicate_zero, Nat.reduceAdd, Nat.reduceSub, Nat.zero_add, List.getElem?_cons_zero, List.getElem?_cons_succ, List.set_cons_zero, List.set_cons_succ, wipe, cxOf_K, tYes, List.cons.injEq, and_self, Option.some.injEq, V.int.injEq, V.bl.injEq, V.ref.injEq, V.str.injEq, exists_eq_left', exists_eq_left, exists_and_left, and_assoc, true_and, and_true, if_true, if_false, ite_true, ite_false, Bool.not_true, Bool.not_false, Bool.false_eq_true, reduceIte])
theorem val_lt : ∀ (l : List Nat) (a : Nat), l.all isFig = true → l.foldl (fun acc c => acc * 10 + (c - 48)) a < (a + 1) * 10 ^ l.length
  | [], a, _ => by simp
  | c :: l, a, h => by
    rw [List.all_cons, Bool.and_eq_true] at h
    have hc := h.1
    unfold isFig at hc
    simp only [Bool.and_eq_true, decide_eq_true_eq] at hc
    have ih := val_lt l (a * 10 + (c - 48)) h.2
    rw [List.foldl_cons, List.length_cons, Nat.pow_succ]
    refine Nat.lt_of_lt_of_le ih ?_
    calc (a * 10 + (c - 48) + 1) * 10 ^ l.length ≤ ((a + 1) * 10) * 10 ^ l.length := Nat.mul_le_mul_right _ (by omega)
      _ = (a + 1) * (10 ^ l.length * 10) := by rw [Nat.mul_assoc, Nat.mul_comm 10]
theorem numIn_lt {z : Str} {n : Int} (h : numIn z = some n) : 0 ≤ n ∧ n ≤ 999999999 := by
  unfold numIn at h
  split at h
  · rename_i c
    simp only [Bool.and_eq_true, decide_eq_true_eq] at c
    cases h
    have h1 := val_lt z.cps.toList 0 c.2
    have h2 : z.cps.toList.length ≤ 9 := by
      have : z.cps.toList.length = z.length := by show z.cps.toList.length = z.cps.size; simp
      omega
    have h3 : (10 : Nat) ^ z.cps.toList.length ≤ 10 ^ 9 := Nat.pow_le_pow_right (by decide) h2
    have h4 : NumText.digitsVal z.cps.toList < (0 + 1) * 10 ^ z.cps.toList.length := h1
    constructor
    · omega
    · have : (10 : Nat) ^ 9 = 1000000000 := by decide
      omega
  · cases h
theorem votesL_names : ∀ {k : Nat} {l : List Nat} {vs us : List (Str × Int)}, (∀ v ∈ vs, nameZ v.1 = true ∧ (v.2 = 1 ∨ v.2 = -1)) → votesL k vs l = .ok us → ∀ v ∈ us, nameZ v.1 = true ∧ (v.2 = 1 ∨ v.2 = -1)
  | k, [], vs, us, hv, h => by
    have h : Except.ok vs = (Except.ok us : Except Er _) := by cases k <;> exact h
    cases h
    exact hv
  | 0, _ :: _, _, _, _, h => by cases h
  | k + 1, c :: r, vs, us, hv, h => by
    unfold votesL at h
    split at h
    · cases h
    · split at h
      · cases h
      · rename_i h2
        refine votesL_names (fun v hm => ?_) h
        have hw : ∀ b : Bool, ((if c = 43 then (1 : Int) else -1) = 1 ∨ (if c = 43 then (1 : Int) else -1) = -1) := fun _ => by
          by_cases c1 : c = 43
          · rw [if_pos c1]; exact .inl rfl
          · rw [if_neg c1]; exact .inr rfl
        unfold putV at hm
        split at hm
        · obtain ⟨q, hq, e⟩ := List.mem_map.mp hm
          split at e
          · cases e
            exact ⟨eq_true_of_ne_false h2, hw true⟩
          · cases e
            exact hv _ hq
        · rcases List.mem_append.mp hm with hm | hm
          · exact hv _ hm
          · cases List.mem_singleton.mp hm
            exact ⟨eq_true_of_ne_false h2, hw true⟩
theorem votesR_names {z : Str} {us : List (Str × Int)} (h : votesR z = .ok us) : ∀ v ∈ us, nameZ v.1 = true ∧ (v.2 = 1 ∨ v.2 = -1) := by
  unfold votesR at h
  split at h
  · cases h
    exact fun v hv => by cases hv
  · exact votesL_names (fun v hv => by cases hv) h
theorem votesL_half : ∀ {k : Nat} {l : List Nat} {vs us : List (Str × Int)}, votesL k vs l = .ok us → 2 * us.length ≤ 2 * vs.length + l.length
  | k, [], vs, us, h => by
    have h : Except.ok vs = (Except.ok us : Except Er _) := by cases k <;> exact h
    cases h
    simp
  | 0, _ :: _, _, _, h => by cases h
  | k + 1, c :: r, vs, us, h => by
    unfold votesL at h
    split at h
    · cases h
    · split at h
      · cases h
      · rename_i h5
        have h2 := votesL_half h
        have h3 := putV_length vs ⟨(nameL r).toArray⟩ (if c = 43 then 1 else -1)
        have h6 : 1 ≤ (nameL r).length := by
          have h5 := eq_true_of_ne_false h5
          unfold nameZ at h5
          simp only [Bool.and_eq_true, decide_eq_true_eq] at h5
          have h7 : 1 ≤ (nameL r).toArray.size := h5.1.1
          rwa [List.size_toArray] at h7
        have h8 : (nameL r).length ≤ r.length := by
          unfold nameL
          exact (List.takeWhile_prefix _).length_le
        rw [List.length_drop] at h2
        rw [List.length_cons]
        omega
theorem votesR_half {z : Str} {us : List (Str × Int)} (h : votesR z = .ok us) : 2 * us.length ≤ z.length := by
  unfold votesR at h
  split at h
  · cases h
    exact Nat.zero_le _
  · have h2 := votesL_half h
    have : z.cps.toList.length = z.length := by show z.cps.toList.length = z.cps.size; simp
    simp only [List.length_nil] at h2
    omega
/-- what rows bring that were read -/
structure Fd (M : Wd) : Prop where
  wf : Wf M.rows
  le : ∀ p ∈ M.rows, p.1 ≤ M.came
  dp : ∀ p ∈ M.rows, (aboveR M.rows p.1).length ≤ 8
  c : 0 ≤ M.came ∧ M.came ≤ 999999999
  k : 0 ≤ M.clock ∧ M.clock ≤ 999999999
  r : ∀ p ∈ M.rows, 0 ≤ p.2.time ∧ p.2.time ≤ M.clock ∧ nameZ p.2.who = true ∧ (p.2.struck = true → p.2.text = "") ∧ (p.2.struck = false → textZ p.2.text = true) ∧ p.2.votes.length ≤ 900 ∧ (∀ v ∈ p.2.votes, nameZ v.1 = true ∧ (v.2 = 1 ∨ v.2 = -1)) ∧ (p.2.votes.map (·.1)).Nodup ∧ p.2.who ∉ p.2.votes.map (·.1)
theorem Fd.wr {M : Wd} (f : Fd M) : WrOk M := by
  have small : ∀ i : Int, 0 ≤ i → i ≤ 999999999 → i.natAbs < 2 ^ 60 := fun i h1 h2 => by
    have : (999999999 : Nat) < 2 ^ 60 := by decide
    omega
  refine ⟨fun p hp => ?_, small _ f.k.1 f.k.2, small _ f.c.1 f.c.2⟩
  obtain ⟨a1, a2, a3, a4, a5, a6, a7, _⟩ := f.r p hp
  have h0 := f.wf.pos p hp
  have h1 := f.wf.u0 p hp
  have h2 := f.wf.ult p hp
  have h3 := f.le p hp
  have h4 := f.c.2
  have h5 := f.k.2
  refine ⟨small _ (by omega) (by omega), small _ (by omega) (by omega), small _ a1 (by omega), ?_, ?_, by omega, fun v hv => (a7 v hv).1⟩
  · unfold nameZ at a3
    simp only [Bool.and_eq_true, decide_eq_true_eq] at a3
    exact a3.1.2
  · cases q : p.2.struck with
    | true =>
      rw [a4 q]
      decide +kernel
    | false =>
      have := a5 q
      unfold textZ at this
      simp only [Bool.and_eq_true, decide_eq_true_eq] at this
      exact this.1.2
theorem Fd.good {M : Wd} (f : Fd M) (h : M.rows.length ≤ 60) : Good M := ⟨f.wf, f.le, f.dp, h⟩
theorem aboveT_app {rs : Rows} (F : Wf rs) {n : Int} {r : Row} (hn : ∀ p ∈ rs, p.1 ≠ n) {m : Int} (hm : ∃ r, findR rs m = some r) (h0 : n ≠ 0) : aboveR (rs ++ [(n, r)]) m = aboveR rs m := by
  refine above_congr m.toNat m (Nat.le_refl _) fun x hx => ?_
  have hx' : x = 0 ∨ ∃ r, findR rs x = some r := by
    rcases hx with rfl | hx
    · exact .inr hm
    · exact (above_lt F hx).2.2
  have ne : x ≠ n := fun z => by
    rcases hx' with w | ⟨r', w⟩
    · exact h0 (z.symm.trans w)
    · exact hn _ (findR_mem w) z
  unfold upR
  rw [findR_app hn, if_neg ne]
theorem putM_fd {M M' : Wd} {row : Str} (f : Fd M) (hl : row.length ≤ 1800) (h : putM M row = .ok M') : Fd M' := by
  have wl : ∀ x ∈ Txt.split row (Str.ofString " "), x.length ≤ row.length := fun x hx => split_len hx
  have W := (putM_wf f.wf h).1
  obtain ⟨w0, w1, w2, w3, w4, t, n, u, tm, ews, h0, h1, h2, h⟩ := putW_ok h
  obtain ⟨vs, b1, b2, b3, b4, a1, a2, a3, a4, a5, a6, rfl⟩ := putN_ok h
  have w4l : w4.length ≤ row.length := wl w4 (by rw [show Txt.split row (Str.ofString " ") = _ from ews]; simp)
  obtain ⟨nd, ln⟩ := votesR_nodup b1
  have u0 := (numIn_lt h1).1
  have hn' : ∀ p ∈ M.rows, p.1 ≠ n := findR_none.mp (by
    unfold hasR at a3
    cases q : findR M.rows n with
    | none => rfl
    | some r => rw [q] at a3; cases a3)
  refine ⟨W, fun p hp => ?_, fun p hp => ?_, f.c, f.k, fun p hp => ?_⟩
  all_goals rcases List.mem_append.mp hp with hp | hp
  · exact f.le p hp
  · cases List.mem_singleton.mp hp
    exact a4
  · show (aboveR (M.rows ++ [(n, rowR w3 u tm vs t)]) p.1).length ≤ 8
    rw [aboveT_app f.wf hn' ⟨p.2, findR_of f.wf.nk hp⟩ (by omega)]
    exact f.dp p hp
  · cases List.mem_singleton.mp hp
    show (aboveR (M.rows ++ [(n, rowR w3 u tm vs t)]) n).length ≤ 8
    unfold deepI at a6
    omega
  · exact f.r p hp
  · cases List.mem_singleton.mp hp
    refine ⟨(numIn_lt h2).1, a5, b2, fun q => ?_, fun q => ?_, by have := votesR_half b1; show vs.length ≤ 900; omega, votesR_names b1, nd, b3⟩
    · have : t = [] := of_decide_eq_true q
      show Txt.join " " t = ""
      rw [this]
      decide +kernel
    · have : t ≠ [] := of_decide_eq_false q
      show textZ (Txt.join " " t) = true
      cases q2 : textZ (Txt.join " " t) with
      | true => rfl
      | false => exact absurd ⟨this, q2⟩ b4
theorem putsM_fd : ∀ {rs : List Str} {M M' : Wd}, Fd M → (∀ r ∈ rs, r.length ≤ 1800) → putsM M rs = .ok M' → Fd M'
  | [], M, M', F, _, h => by
    cases h
    exact F
  | r :: rs, M, M', F, hl, h => by
    cases q : putM M r with
    | error e => rw [putsM_bad q] at h; cases h
    | ok M1 =>
      rw [putsM_cons q] at h
      exact putsM_fd (putM_fd F (hl r List.mem_cons_self) q) (fun x hx => hl x (List.mem_cons_of_mem _ hx)) h
theorem filledM_ok {r0 : Str} {rs : List Str} {M : Wd} (h : filledM (r0 :: rs) = .ok M) : ∃ w0 w1 k c, Txt.split r0 " " = [w0, w1] ∧ numIn w0 = some k ∧ numIn w1 = some c ∧ putsM ⟨[], c, k⟩ rs = .ok M := by
  have e : filledM (r0 :: rs) = (if (Txt.split r0 (Str.ofString " ")).length ≠ 2 then .error .text else match numIn (wordAt (Txt.split r0 (Str.ofString " ")) 0) with
      | none => .error .text
      | some k => match numIn (wordAt (Txt.split r0 (Str.ofString " ")) 1) with
        | none => .error .text
        | some c => putsM ⟨[], c, k⟩ rs) := rfl
  rw [e] at h
  generalize Txt.split r0 (Str.ofString " ") = ws at h ⊢
  split at h
  · cases h
  · rename_i c2
    match ws, c2 with
    | [w0, w1], _ =>
      split at h
      · cases h
      · rename_i k hk
        split at h
        · cases h
        · rename_i c hc
          exact ⟨w0, w1, k, c, rfl, hk, hc, h⟩
    | [], h => exact absurd (by decide) h
    | [_], h => exact absurd (by simp) h
    | _ :: _ :: _ :: _, h => exact absurd (by simp) h
theorem filledM_fd {rows : List Str} {M : Wd} (hl : ∀ r ∈ rows, r.length ≤ 1800) (ne : rows ≠ []) (h : filledM rows = .ok M) : Fd M := by
  obtain ⟨r0, rs, rfl⟩ := List.exists_cons_of_ne_nil ne
  obtain ⟨w0, w1, k, c, _, hk, hc, h⟩ := filledM_ok h
  have f0 : Fd ⟨[], c, k⟩ := ⟨⟨List.Pairwise.nil, by simp, by simp, by simp, by simp⟩, by simp, by simp, numIn_lt hc, numIn_lt hk, by simp⟩
  exact putsM_fd f0 (fun x hx => hl x (List.mem_cons_of_mem _ hx)) h
theorem votesL_err : ∀ {k : Nat} {l : List Nat} {vs : List (Str × Int)} {e : Er}, votesL k vs l = .error e → e = .text ∨ e = .name
  | k, [], vs, e, h => by
    have h : Except.ok vs = (Except.error e : Except Er _) := by cases k <;> exact h
    cases h
  | 0, _ :: _, _, e, h => by
    cases h
    exact .inl rfl
  | k + 1, c :: r, vs, e, h => by
    unfold votesL at h
    split at h
    · cases h
      exact .inl rfl
    · split at h
      · cases h
        exact .inr rfl
      · exact votesL_err h
theorem putW_err {M : Wd} {ws : List Str} {e : Er} (h : putW M ws = .error e) : e = .text ∨ e = .name := by
  match ws, h with
  | w0 :: w1 :: w2 :: w3 :: w4 :: t, h =>
    cases h0 : numIn w0 with
    | none => rw [putW_none (.inl h0)] at h; cases h; exact .inl rfl
    | some n =>
      cases h1 : numIn w1 with
      | none => rw [putW_none (.inr (.inl h1))] at h; cases h; exact .inl rfl
      | some u =>
        cases h2 : numIn w2 with
        | none => rw [putW_none (.inr (.inr h2))] at h; cases h; exact .inl rfl
        | some tm =>
          rw [putW_some h0 h1 h2] at h
          unfold putN at h
          split at h
          · cases h; exact .inl rfl
          split at h
          · cases h; exact .inl rfl
          split at h
          · cases h; exact .inl rfl
          split at h
          · cases h; exact .inr rfl
          split at h
          · rename_i e' he
            cases h
            unfold votesR at he
            split at he
            · cases he
            · exact votesL_err he
          split at h
          · cases h; exact .inl rfl
          split at h
          · cases h; exact .inl rfl
          split at h
          · cases h; exact .inl rfl
          · cases h
  | [], h => cases h; exact .inl rfl
  | [_], h => cases h; exact .inl rfl
  | [_, _], h => cases h; exact .inl rfl
  | [_, _, _], h => cases h; exact .inl rfl
  | [_, _, _, _], h => cases h; exact .inl rfl
theorem putsM_err : ∀ {rs : List Str} {M : Wd} {e : Er}, putsM M rs = .error e → e = .text ∨ e = .name
  | [], M, e, h => by cases h
  | r :: rs, M, e, h => by
    cases q : putM M r with
    | error e' =>
      rw [putsM_bad q] at h
      cases h
      exact putW_err q
    | ok M1 =>
      rw [putsM_cons q] at h
      exact putsM_err h
theorem filledM_err {rows : List Str} {e : Er} (h : filledM rows = .error e) : e = .text ∨ e = .name := by
  unfold filledM at h
  dsimp only at h
  split at h
  · cases h; exact .inl rfl
  split at h
  · cases h; exact .inl rfl
  split at h
  · cases h; exact .inl rfl
  · exact putsM_err h
def readM (z : Str) : Except Er Wd := match filledM (Txt.split z "\n") with
  | .error _ => .error .text
  | .ok M => if rightM M z = true then .ok M else .error .text
/-- a text that is short enough to be read here -/
structure SmallT (z : Str) : Prop where
  l : z.length < 100000
  n : (Txt.split z "\n").length < 9000
  r : ∀ r ∈ Txt.split z "\n", r.length ≤ 1800
section
variable {X : Cx} {k : Nat} {f : Addr} {ps : List Str} {sp : Sp} {x : Str} {p pos : Pos} {e : Expr} {es : List Expr} {t : TA} {W : L2.WX}
/-- a call in a try: what it lets out is told at the names it was called with -/
theorem pe_cdS (D : Def X.prog X.w X.K X.mg X.base k f ps sp) (hr : Room k X.A) (hm : X.mg x = some (.ref f)) (tk : L2N.Takes X W) (ha : PA X (e :: es) t)
    (hg : Gl X x := by rfl) (hdb : (x == ("__debug__" : Str)) = false := by decide) (he : starEach (e :: es) X.env = (false, eval e X.env) :: starEach es X.env := by rfl)
    (hpl : (backTo pos (starEach es X.env)).any (·.1) = false := by rfl) : PE X (.Call (.Name x p) (e :: es) [] pos) (tCallS sp (WE W) t) := by
  obtain ⟨⟨fd, F, b⟩, kp⟩ := D
  exact pe_callS F hr hg hm kp b (L2N.passAt tk) ha hdb he hpl
end
section
variable {P : Program} {w : World} {K : PySem.W.Frag} {mg : Str → Option Value} {base : Heap}
def spRead (K : PySem.W.Frag) : Sp := fun vs H Q E => ∃ (x : V) (d : PyData), vs = [x] ∧ Dp K H x d ∧ (∀ z, d = .str z → SmallT z) ∧
  (∀ z M, d = .str z → readM z = .ok M → ∀ H' L', WoodAt K H' L' → L'.wd = M → Fd M → Same H H' → (∀ b ∈ foot L', H b = none) → Q (.ref L'.p) H') ∧ ((∀ z M, d = .str z → readM z ≠ .ok M) → ∀ H', Same H H' → Bad K E .text H')
abbrev N_read : List Str := ["text", "found"]
theorem sc_read : FnScope N_read ["text"] (defScope s_read) := ⟨rfl, rfl, rfl, by decide +kernel, rfl, by decide +kernel, by decide +kernel⟩
theorem be_read : BindEq "read" "read" s_read ["text"] := fun _ _ _ _ _ _ us hl => match us, hl with | [_], _ => rfl
theorem D_read (T : Txt K mg base) : Def P w K mg base 5 (He.ga K "read") ["text"] (spRead K) := by
  refine mk_def T.f_read sc_read be_read (fun vs H Q E h => ?_) (fun cdv A outer s H vs Q E hr h => ?_)
  · obtain ⟨x, d, rfl, _⟩ := h
    rfl
  · obtain ⟨x, d, rfl, hx, hs, k1, k0⟩ := h
    refine ⟨_, (pss_cons (ps_expr (pe_cd (D_need T) (by exact hr.mono (by first | decide | omega)) T.g_need passE (pa_cons (pe_callB call_isi (by rfl) T.b_isinstance (by decide +kernel) (pa_cons (pv 0) (pa_cons (pe_bltn (v := .ty "str") (by rfl) T.b_str (by decide +kernel) rfl) pa_nil))) pa_nil)))
      (pss_cons (ps_set (i := 1) sc_read.nd rfl (Or.inl rfl) pe_non)
      (C8.pss_cut (L2N.ps_try_many rfl rfl takesE (fun W pn xe tk _ => by exact (pss_one (ps_set (i := 1) sc_read.nd rfl (Or.inl rfl) (pe_cdS (D_filled T) (by exact hr.mono (by first | decide | omega)) T.g_filled tk (pa_cons (pe_split (pv 0) pe_str) pa_nil))))) (L2N.HdsOk.cons (c := .ref (He.ga K "WoodError")) ⟨rfl, by decide, .inl T.x_WoodError.g⟩ (fun _ _ _ _ _ _ _ => by exact (pss_one (ps_set (i := 1) sc_read.nd rfl (Or.inl rfl) pe_non))) L2N.HdsOk.nil))
      (pss_cons (ps_expr (pe_cd (D_need T) (by exact hr.mono (by first | decide | omega)) T.g_need passE (pa_cons (pe_and (pe_cmpR op_notN (pv 1) pe_non (nomark _)) (pe_one (pe_cd (D_is_right T) (by exact hr.mono (by first | decide | omega)) T.g_is_right passE (pa_cons (pv 1) (pa_cons (pv 0) pa_nil))))) pa_nil)))
      (pss_one (ps_ret (pv 1))))))), ?_⟩
    walk_at "rd"
    refine use_isi hx (kit_str d) ?_
    refine use_need (fun hd => ?_) (fun hd => k0 (fun z M e => ?_) H (Same.refl _))
    · cases hx with
      | str z =>
        have sm := hs z rfl
        have z9 : (100000 : Nat) < sizeLine := by rw [sizeLine_eq]; omega
        have k1 : ∀ M, readM z = .ok M → ∀ H' L', WoodAt K H' L' → L'.wd = M → Fd M → Same H H' → (∀ b ∈ foot L', H b = none) → Q (.ref L'.p) H' := fun M => k1 z M rfl
        have k0 : (∀ M, readM z ≠ .ok M) → ∀ H', Same H H' → Bad K E .text H' := fun h => k0 fun z' M e => by
          cases e
          exact h M
        have rne : Txt.split z (Str.ofString "\n") ≠ [] := fun q => by
          have := split_pos z (Str.ofString "\n")
          rw [q] at this
          simp at this
        refine ⟨fun σ' H' => Same H H' ∧ ((∃ (M : Wd) (L : Lay), filledM (Txt.split z "\n") = .ok M ∧ σ' = [some (.str z), some (.ref L.p)] ∧ WoodAt K H' L ∧ L.wd = M ∧ ∀ b ∈ foot L, H b = none) ∨ ((∃ e, filledM (Txt.split z "\n") = .error e) ∧ σ' = [some (.str z), some .non])), ?_, ?_⟩
        · unfold tCallS
          walk_at "rd"
          refine ⟨⟨_, rfl⟩, by decide +kernel, ?_, fun p nP => ?_⟩
          · have := sm.l
            omega
          have e1 : upd H p (.lst ((Txt.split z (Str.ofString "\n")).map V.str)) p = some (.lst ((Txt.split z (Str.ofString "\n")).map V.str)) := upd_same
          have s1 : Same H (upd H p (.lst ((Txt.split z (Str.ofString "\n")).map V.str))) := Same.new nP
          generalize upd H p (.lst ((Txt.split z (Str.ofString "\n")).map V.str)) = H1 at e1 s1 ⊢
          refine ⟨p, _, rfl, SqL.of e1, rne, sm.n, fun r hr => ?_, fun M hM H2 L W2 e2 F2 s2 f2 => ⟨s1.trans s2, .inl ⟨M, hM, L, rfl, W2, e2, fun b hb => s1.free (f2 b hb)⟩⟩, fun e he H2 s2 => ?_⟩
          · have := sm.r r hr
            omega
          · have hm : PySem.W.exmOne K (.ref (He.ga K e.cls)) (.ref (He.ga K "WoodError")) = some true := by
              rcases filledM_err he with rfl | rfl
              · exact (T.wd "BadText" (by decide +kernel)).m
              · exact (T.wd "BadName" (by decide +kernel)).m
            refine ⟨true, hm, fun _ a na => ?_, fun q => by cases q⟩
            exact ⟨s1.trans s2, .inr ⟨⟨e, he⟩, rfl⟩⟩
        · rintro σ' H' ⟨s1, h⟩
          rcases h with ⟨M, L, hM, rfl, W1, e1, f1⟩ | ⟨⟨e, he⟩, rfl⟩
          · walk_at "rd"
            have f := filledM_fd sm.r rne hM
            have em : readM z = if rightM M z = true then .ok M else .error .text := by
              unfold readM
              rw [hM]
            rw [decide_eq_false (show ¬ V.ref L.p = V.non by intro q; cases q)]
            have f2 : Fd L.wd := by rw [e1]; exact f
            refine iteT ⟨L, z, rfl, W1, fun h => f2.good h, f2.wf, f2.wr, fun H2 s2 => ?_⟩
            rw [e1]
            refine use_need (fun q => ?_) (fun q => ?_)
            · rw [if_pos q] at em
              exact k1 M em H2 L (W1.same s2) e1 f (s1.trans s2) f1
            · rw [if_neg (by rw [q]; decide)] at em
              exact k0 (fun M' h => by rw [em] at h; cases h) H2 (s1.trans s2)
          · walk_at "rd"
            rw [decide_eq_true trivial]
            refine iteF (use_need (fun q => by cases q) fun _ => k0 (fun M h => ?_) H' s1)
            unfold readM at h
            rw [he] at h
            cases h
      | _ => cases hd
    · rw [e] at hd
      cases hd
end
end Vw
namespace Vw
open PySem PySem.Spec PyProof.Rows L2
/-! ### reading, told so that it can be reckoned -/
def aboveF : Nat → Rows → Int → Nat
  | 0, _, _ => 0
  | k + 1, rs, n => if 0 < n ∧ 0 ≤ upR rs n ∧ upR rs n < n then aboveF k rs (upR rs n) + 1 else 0
theorem aboveF_eq : ∀ (k : Nat) (rs : Rows) (n : Int), n.toNat ≤ k → aboveF k rs n = (aboveR rs n).length
  | 0, rs, n, h => by
    unfold aboveR
    rw [dif_neg (fun q => by omega)]
    rfl
  | k + 1, rs, n, h => by
    unfold aboveR
    show (if _ then _ else _) = _
    by_cases c : 0 < n ∧ 0 ≤ upR rs n ∧ upR rs n < n
    · rw [if_pos c, dif_pos c, List.length_cons, aboveF_eq k rs _ (by omega)]
    · rw [if_neg c, dif_neg c]
      rfl
def deepC (rs : Rows) (n : Int) : Nat := aboveF n.toNat rs n - 1
theorem deepC_eq : deepI = deepC := by
  funext rs n
  unfold deepI deepC
  rw [aboveF_eq n.toNat rs n (Nat.le_refl _)]
/-- sorting by putting in -/
def putS {α : Type} (le : α → α → Bool) (x : α) : List α → List α
  | [] => [x]
  | y :: t => if le x y then x :: y :: t else y :: putS le x t
def sortP {α : Type} (le : α → α → Bool) : List α → List α
  | [] => []
  | x :: t => putS le x (sortP le t)
theorem putS_perm {α : Type} (le : α → α → Bool) (x : α) : ∀ l : List α, (putS le x l).Perm (x :: l)
  | [] => List.Perm.refl _
  | y :: t => by
    unfold putS
    split
    · exact List.Perm.refl _
    · exact ((putS_perm le x t).cons y).trans (List.Perm.swap x y t)
theorem sortP_perm {α : Type} (le : α → α → Bool) : ∀ l : List α, (sortP le l).Perm l
  | [] => List.Perm.refl _
  | x :: t => (putS_perm le x _).trans ((sortP_perm le t).cons x)
theorem putS_sorted {α : Type} {le : α → α → Bool} (tot : ∀ a b, le a b = false → le b a = true) (tr : ∀ a b c, le a b = true → le b c = true → le a c = true) (x : α) : ∀ l : List α, l.Pairwise (fun a b => le a b = true) → (putS le x l).Pairwise (fun a b => le a b = true)
  | [], _ => List.pairwise_singleton _ _
  | y :: t, h => by
    unfold putS
    obtain ⟨h1, h2⟩ := List.pairwise_cons.mp h
    split
    · rename_i c
      refine List.pairwise_cons.mpr ⟨fun a ha => ?_, h⟩
      rcases List.mem_cons.mp ha with rfl | ha
      · exact c
      · exact tr _ _ _ c (h1 a ha)
    · rename_i c
      refine List.pairwise_cons.mpr ⟨fun a ha => ?_, putS_sorted tot tr x t h2⟩
      rcases List.mem_cons.mp ((putS_perm le x t).mem_iff.mp ha) with rfl | ha
      · exact tot _ _ (Bool.eq_false_iff.mpr c)
      · exact h1 a ha
theorem sortP_sorted {α : Type} {le : α → α → Bool} (tot : ∀ a b, le a b = false → le b a = true) (tr : ∀ a b c, le a b = true → le b c = true → le a c = true) : ∀ l : List α, (sortP le l).Pairwise (fun a b => le a b = true)
  | [] => List.Pairwise.nil
  | x :: t => putS_sorted tot tr x _ (sortP_sorted tot tr t)
def sortC : List Int → List Int := sortP fun a b => decide (a ≤ b)
theorem sortC_eq : sortI = sortC := by
  funext l
  refine (sortI_eq (sortP_perm _ l) ?_).symm
  refine (sortP_sorted (le := fun a b : Int => decide (a ≤ b)) (fun a b h => ?_) (fun a b c h1 h2 => ?_) l).imp fun h => of_decide_eq_true h
  · have := of_decide_eq_false h
    exact decide_eq_true (by omega)
  · have := of_decide_eq_true h1
    have := of_decide_eq_true h2
    exact decide_eq_true (by omega)
def sortSC : List Str → List Str := sortP leS
theorem sortSC_eq : sortS = sortSC := by
  funext l
  have pw := List.pairwise_mergeSort (le := leS) (fun a b c h1 h2 => leL_trans h1 h2) (fun a b => by
    rw [Bool.or_eq_true]
    exact leL_total _ _) l
  have pw2 := sortP_sorted (le := leS) (fun a b h => by
    rcases leL_total a.cps.toList b.cps.toList with q | q
    · rw [show leS a b = true from q] at h
      cases h
    · exact q) (fun a b c h1 h2 => leL_trans h1 h2) l
  exact ((sortS_perm l).trans (sortP_perm leS l).symm).eq_of_pairwise (fun x y _ _ h1 h2 => leS_antisymm h1 h2) pw pw2
section
variable (dp : Rows → Int → Nat) (si : List Int → List Int) (ss : List Str → List Str)
def putNP (M : Wd) (n u tm : Int) (w3 w4 : Str) (t : List Str) : Except Er Wd :=
  if (decide (u = 0) || hasR M.rows u) = false then .error .text else if (decide (u < n) && !hasR M.rows n) = false then .error .text else if (decide (n ≤ M.came) && decide (tm ≤ M.clock)) = false then .error .text else
  if nameZ w3 = false then .error .name else match votesR w4 with
  | .error e => .error e
  | .ok vs => if w3 ∈ vs.map (·.1) then .error .text else if t ≠ [] ∧ textZ (Txt.join " " t) = false then .error .text else
    if 8 ≤ dp (M.rows ++ [(n, rowR w3 u tm vs t)]) n then .error .text else .ok ⟨M.rows ++ [(n, rowR w3 u tm vs t)], M.came, M.clock⟩
def putWP (M : Wd) : List Str → Except Er Wd
  | w0 :: w1 :: w2 :: w3 :: w4 :: t => match numIn w0, numIn w1, numIn w2 with
    | some n, some u, some tm => putNP dp M n u tm w3 w4 t
    | _, _, _ => .error .text
  | _ => .error .text
def putsMP : Wd → List Str → Except Er Wd
  | M, [] => .ok M
  | M, r :: rs => match putWP dp M (Txt.split r " ") with
    | .error e => .error e
    | .ok M' => putsMP M' rs
def filledMP (rows : List Str) : Except Er Wd :=
  let ws := Txt.split (wordAt rows 0) " "
  if ws.length ≠ 2 then .error .text else match numIn (wordAt ws 0) with
  | none => .error .text
  | some k => match numIn (wordAt ws 1) with
    | none => .error .text
    | some c => putsMP dp ⟨[], c, k⟩ (rows.drop 1)
def rowOkP (rs : Rows) (p : Int × Row) : Bool := !(decide (p.1 ≤ p.2.under) || (decide (p.2.under ≠ 0) && decide (p.2.time < timeR rs p.2.under))) && !(p.2.struck && decide (si (repliesR rs p.1) = []))
def timesRP (rs : Rows) : List Int := (si (rs.map (·.1))).map (timeR rs)
def votesTP (vs : List (Str × Int)) : Str := if vs = [] then "." else Txt.join "" ((ss (vs.map (·.1))).map fun z => (if 0 < voteOf vs z then Str.ofString "+" else Str.ofString "-") ++ z)
def rowTP (n : Int) (r : Row) : Str := Txt.join " " [Str.ofString (toString n), Str.ofString (toString r.under), Str.ofString (toString r.time), r.who, votesTP ss r.votes] ++ (if r.struck then Str.ofString "" else Str.ofString " " ++ r.text)
def rowTNP (M : Wd) (n : Int) : Str := match findR M.rows n with
  | some r => rowTP ss n r
  | none => ""
def writtenMP (M : Wd) : Str := Txt.join "\n" ((Str.ofString (toString M.clock) ++ Str.ofString " " ++ Str.ofString (toString M.came)) :: (si (M.rows.map (·.1))).map (rowTNP ss M))
def rightMP (M : Wd) (text : Str) : Bool := decide (M.rows.length ≤ 60) && isCount (.int M.came) 0 999999999 && !(decide (M.rows.length = 60) && decide (∀ p ∈ M.rows, p.1 < M.came)) && M.rows.all (rowOkP si M.rows) && decide (timesRP si M.rows = si (timesRP si M.rows)) && decide (writtenMP si ss M = text)
def readMP (z : Str) : Except Er Wd := match filledMP dp (Txt.split z "\n") with
  | .error _ => .error .text
  | .ok M => if rightMP si ss M z = true then .ok M else .error .text
end
theorem putsMP_eq : ∀ (rs : List Str) (M : Wd), putsM M rs = putsMP deepI M rs
  | [], M => rfl
  | r :: rs, M => by
    have h : putM M r = putWP deepI M (Txt.split r " ") := rfl
    unfold putsM putsMP
    rw [h]
    cases putWP deepI M (Txt.split r " ") with
    | error e => rfl
    | ok M' => exact putsMP_eq rs M'
theorem readMP_eq (z : Str) : readM z = readMP deepI sortI sortS z := by
  have h : ∀ rows, filledM rows = filledMP deepI rows := fun rows => by
    unfold filledM filledMP
    simp only [putsMP_eq] <;> rfl
  have h2 : ∀ M, rightM M z = rightMP sortI sortS M z := fun M => rfl
  unfold readM readMP
  rw [h]
  cases filledMP deepI (Txt.split z "\n") with
  | error e => rfl
  | ok M => rfl
def readC (z : Str) : Except Er Wd := readMP deepC sortC sortSC z
theorem readC_eq (z : Str) : readM z = readC z := by
  rw [readMP_eq, deepC_eq, sortC_eq, sortSC_eq]
  rfl
def writtenC (M : Wd) : Str := writtenMP sortC sortSC M
theorem writtenC_eq (M : Wd) : writtenM M = writtenC M := by
  show writtenMP sortI sortS M = _
  rw [sortC_eq, sortSC_eq]
  rfl
def isOkE {α : Type} : Except Er α → Bool
  | .ok _ => true
  | .error _ => false
theorem read_not {z : Str} (h : isOkE (readC z) = false) : ∀ M, readM z ≠ .ok M := fun M q => by
  rw [readC_eq] at q
  rw [q] at h
  cases h
theorem read_yes {z : Str} (h : isOkE (readC z) = true) : ∃ M, readM z = .ok M := by
  rw [readC_eq]
  cases q : readC z with
  | ok M => exact ⟨M, rfl⟩
  | error e => rw [q] at h; cases h
/-- what is read is written so -/
theorem read_written {z : Str} {M : Wd} (h : readM z = .ok M) : writtenM M = z := by
  unfold readM at h
  split at h
  · cases h
  · split at h
    · rename_i q
      cases h
      unfold rightM at q
      simp only [Bool.and_eq_true] at q
      exact of_decide_eq_true q.2
    · cases h
end Vw
namespace Vw
open PySem PySem.Spec PyProof.Rows L2
/-! ### texts that are rows joined -/
def headW (M : Wd) : Str := Str.ofString (toString M.clock) ++ Str.ofString " " ++ Str.ofString (toString M.came)
def wRowsC (M : Wd) : List Str := headW M :: (sortC (M.rows.map (·.1))).map (rowTNP sortSC M)
def yesR (rows : List Str) : Bool := match filledMP deepC rows with
  | .ok M => decide (M.rows.length ≤ 60) && isCount (.int M.came) 0 999999999 && !(decide (M.rows.length = 60) && decide (∀ p ∈ M.rows, p.1 < M.came)) && M.rows.all (rowOkP sortC M.rows) && decide (timesRP sortC M.rows = sortC (timesRP sortC M.rows)) && decide (wRowsC M = rows)
  | .error _ => false
def noR (rows : List Str) : Bool := match filledMP deepC rows with
  | .ok M => !(decide (M.rows.length ≤ 60)) || (decide (M.rows.length = 60) && decide (∀ p ∈ M.rows, p.1 < M.came))
  | .error _ => true
def noNl (rows : List Str) : Bool := rows.all fun r => !r.cps.toList.contains 10
theorem split_rows {rows : List Str} (ne : rows ≠ []) (nl : noNl rows = true) : Txt.split (Txt.join "\n" rows) "\n" = rows := by
  refine TL.split_join (s := 10) (S := []) (by decide +kernel) (by decide +kernel) ne fun p hp h => ?_
  have := List.all_eq_true.mp nl p hp
  rw [Bool.not_eq_true', ← Bool.not_eq_true] at this
  exact this (List.contains_iff_mem.mpr h)
theorem yes_rows {rows : List Str} (ne : rows ≠ []) (nl : noNl rows = true) (h : yesR rows = true) : ∃ M, readM (Txt.join "\n" rows) = .ok M := by
  rw [readC_eq]
  unfold readC readMP
  rw [split_rows ne nl]
  unfold yesR at h
  cases q : filledMP deepC rows with
  | error e => rw [q] at h; cases h
  | ok M =>
    rw [q] at h
    refine ⟨M, if_pos ?_⟩
    simp only [Bool.and_eq_true] at h
    obtain ⟨⟨⟨⟨⟨h1, h2⟩, h3⟩, h4⟩, h5⟩, h6⟩ := h
    unfold rightMP
    rw [h1, h2, h3, h4, h5]
    refine decide_eq_true ?_
    have := of_decide_eq_true h6
    exact congrArg (Txt.join "\n") this
theorem no_rows {rows : List Str} (ne : rows ≠ []) (nl : noNl rows = true) (h : noR rows = true) : ∀ M, readM (Txt.join "\n" rows) ≠ .ok M := by
  intro M' hM
  rw [readC_eq] at hM
  unfold readC readMP at hM
  rw [split_rows ne nl] at hM
  unfold noR at h
  cases q : filledMP deepC rows with
  | error e => rw [q] at hM; cases hM
  | ok M =>
    rw [q] at h hM
    have : rightMP sortC sortSC M (Txt.join "\n" rows) = false := by
      unfold rightMP
      rcases Bool.or_eq_true_iff.mp h with h | h
      · rw [Bool.not_eq_true'] at h
        rw [h]
        simp
      · rw [h]
        simp
    have hM : (if rightMP sortC sortSC M (Txt.join "\n" rows) = true then Except.ok M else .error .text : Except Er Wd) = .ok M' := hM
    rw [if_neg (by rw [this]; decide)] at hM
    cases hM
/-- a short text: rows of a text that is not long -/
theorem smallT_of {rows : List Str} (ne : rows ≠ []) (nl : noNl rows = true) (hl : rows.length < 100) (hr : ∀ r ∈ rows, r.length ≤ 900) : SmallT (Txt.join "\n" rows) := by
  refine ⟨?_, by rw [split_rows ne nl]; omega, fun r h => Nat.le_trans (hr r (by rw [split_rows ne nl] at h; exact h)) (by decide)⟩
  have h1 := join_len (Str.ofString "\n") rows
  have h2 : (rows.map (·.length)).sum ≤ rows.length * 900 := by
    clear ne nl hl h1
    induction rows with
    | nil => exact Nat.zero_le _
    | cons x t ih =>
      have a := hr x List.mem_cons_self
      have b := ih fun r h => hr r (List.mem_cons_of_mem _ h)
      rw [List.map_cons, List.sum_cons, List.length_cons]
      omega
  have e1 : (Str.ofString "\n").length = 1 := by decide +kernel
  rw [e1] at h1
  have h1 : (Txt.join "\n" rows).length ≤ (rows.map (·.length)).sum + rows.length * 1 := h1
  omega
/-- any text of few signs -/
theorem smallT_few {z : Str} (h : z.length ≤ 890) : SmallT z := by
  refine ⟨by omega, ?_, fun r hr => ?_⟩
  · have := split_le z (Str.ofString "\n")
    show (Txt.split z (Str.ofString "\n")).length < 9000
    omega
  · have := split_len hr
    omega
def rowM1 (k : Nat) : Str := Str.ofString (toString ((k : Int) + 1)) ++ Str.ofString " 0 0 ann . x"
def rowD1 (k : Nat) : Str := Str.ofString (toString ((k : Int) + 1)) ++ Str.ofString " " ++ Str.ofString (toString (k : Int)) ++ Str.ofString " 0 ann . x"
def rowsM (h : String) (n : Nat) : List Str := Str.ofString h :: (List.range n).map rowM1
def rowsD (h : String) (n : Nat) : List Str := Str.ofString h :: (List.range n).map rowD1
theorem many_yes : yesR (rowsM "0 60" 60) = true := by decide +kernel
theorem many_no1 : noR (rowsM "0 61" 61) = true := by decide +kernel
theorem many_no2 : noR (rowsM "0 61" 60) = true := by decide +kernel
theorem deep_no : noR (rowsD "0 9" 9) = true := by decide +kernel
theorem deep_yes : yesR (rowsD "0 9" 8) = true := by decide +kernel
theorem nl_m60 : noNl (rowsM "0 60" 60) = true := by decide +kernel
theorem nl_m61 : noNl (rowsM "0 61" 61) = true := by decide +kernel
theorem nl_m610 : noNl (rowsM "0 61" 60) = true := by decide +kernel
theorem nl_d9 : noNl (rowsD "0 9" 9) = true := by decide +kernel
theorem nl_d8 : noNl (rowsD "0 9" 8) = true := by decide +kernel
end Vw
namespace Vw
open PySem PySem.Spec PyProof.Rows L2
/-! ### a wood that comes of another one: plain law -/
def likeR (a b : Row) : Bool := decide (a.who = b.who) && decide (a.under = b.under) && decide (a.time = b.time) && (b.struck || !a.struck)
theorem like_iff {a b : Row} : likeR a b = true ↔ a.who = b.who ∧ a.under = b.under ∧ a.time = b.time ∧ (a.struck = true → b.struck = true) := by
  unfold likeR
  cases a.struck <;> cases b.struck <;> simp [and_assoc]
/-- one row of a wood, seen from the base -/
def rowOf (B : Wd) (p : Int × Row) : Bool := if p.1 > B.came then decide (B.clock ≤ p.2.time) else match findR B.rows p.1 with
  | none => false
  | some r => likeR r p.2
structure ComesOf (B M : Wd) : Prop where
  k : B.clock ≤ M.clock
  c : B.came ≤ M.came
  r : ∀ p ∈ M.rows, rowOf B p = true
theorem rowOf_like {B : Wd} {n : Int} {r r' : Row} (h : rowOf B (n, r) = true) (l : likeR r r' = true) : rowOf B (n, r') = true := by
  obtain ⟨h1, h2, h3, h4⟩ := like_iff.mp l
  unfold rowOf at h ⊢
  dsimp only at h ⊢
  split at h
  · rename_i c
    rw [if_pos c, ← h3]
    exact h
  · rename_i c
    rw [if_neg c]
    cases q : findR B.rows n with
    | none => rw [q] at h; cases h
    | some r0 =>
      rw [q] at h
      obtain ⟨g1, g2, g3, g4⟩ := like_iff.mp h
      exact like_iff.mpr ⟨g1.trans h1, g2.trans h2, g3.trans h3, fun z => h4 (g4 z)⟩
theorem like_refl (r : Row) : likeR r r = true := like_iff.mpr ⟨rfl, rfl, rfl, id⟩
theorem ComesOf.refl {M : Wd} (G : Good M) : ComesOf M M := by
  refine ⟨Int.le_refl _, Int.le_refl _, fun p hp => ?_⟩
  unfold rowOf
  have := G.le p hp
  rw [if_neg (by omega), findR_of G.wf.nk (show (p.1, p.2) ∈ M.rows from hp)]
  exact like_refl _
theorem ComesOf.set {B M : Wd} (h : ComesOf B M) {n : Int} {r r' : Row} (f : findR M.rows n = some r) (l : likeR r r' = true) : ComesOf B { M with rows := setR M.rows n r' } := by
  refine ⟨h.k, h.c, fun p hp => ?_⟩
  rcases mem_setR hp with ⟨rfl, _⟩ | ⟨hp, _⟩
  · exact rowOf_like (h.r _ (findR_mem f)) l
  · exact h.r p hp
theorem ComesOf.sub {B M : Wd} (h : ComesOf B M) {rs : Rows} (s : ∀ p ∈ rs, p ∈ M.rows) : ComesOf B { M with rows := rs } := ⟨h.k, h.c, fun p hp => h.r p (s p hp)⟩
theorem ComesOf.act {B M M' : Wd} (h : ComesOf B M) (G : Good M) {d : Deed} (ok : DeedOk d) {v : V} (e : actM M d = .ok (v, M')) : ComesOf B M' := by
  cases d with
  | tick k who =>
    cases e
    have := (ok.tick rfl).1
    exact ⟨by have := h.k; show B.clock ≤ M.clock + k; omega, h.c, h.r⟩
  | say n who text =>
    obtain ⟨⟨k, M1⟩, hs, e⟩ := ex_map e
    cases e
    have hs : sayM M (.str who) (.int n) (.str text) = .ok (k, M1) := hs
    unfold sayM at hs
    split at hs
    · cases hs
    · split at hs
      · cases hs
      · split at hs
        · cases hs
        · dsimp only at hs
          split at hs
          · cases hs
          · cases hs
            refine ⟨h.k, by have := h.c; show B.came ≤ M.came + 1; omega, fun p hp => ?_⟩
            rcases List.mem_append.mp hp with hp | hp
            · exact h.r p hp
            · cases List.mem_singleton.mp hp
              have := h.c
              unfold rowOf
              rw [if_pos (by show M.came + 1 > B.came; omega)]
              exact decide_eq_true h.k
  | change n who text =>
    obtain ⟨M1, hs, e⟩ := ex_map e
    have e : M1 = M' := by cases e; rfl
    subst e
    have hs : changeM M (.int n) (.str who) (.str text) = .ok M1 := hs
    unfold changeM at hs
    split at hs
    · cases hs
    · rename_i n' r ho
      obtain ⟨hf, _⟩ := own_ok ho
      have hs : (if textZ text = true then Except.ok { M with rows := setR M.rows n' { r with text := text } } else Except.error Er.text) = Except.ok M1 := hs
      split at hs
      · cases hs
        exact h.set hf (like_iff.mpr ⟨rfl, rfl, rfl, id⟩)
      · cases hs
  | strike n who =>
    obtain ⟨⟨k, M1⟩, hs, e⟩ := ex_map e
    cases e
    have hs : strikeM M (.int n) (.str who) = .ok (k, M1) := hs
    unfold strikeM at hs
    split at hs
    · cases hs
    · rename_i n' r ho
      obtain ⟨hf, _⟩ := own_ok ho
      cases hs
      have h1 := h.set (r' := { r with struck := true }) hf (like_iff.mpr ⟨rfl, rfl, rfl, fun _ => rfl⟩)
      exact h1.sub (M := { M with rows := setR M.rows n' { r with struck := true } }) (gone_sub n'.toNat (setR M.rows n' { r with struck := true }) n' (Nat.le_refl _))
  | vote n who way =>
    obtain ⟨⟨k, M1⟩, hs, e⟩ := ex_map e
    cases e
    have hs : voteM M (.int n) (.str who) (.int way) = .ok (k, M1) := hs
    unfold voteM at hs
    split at hs
    · cases hs
    · rename_i n' r ho
      have hf : findR M.rows n' = some r := by
        rw [sayingG G] at ho
        cases q : findR M.rows n with
        | none => rw [q] at ho; cases ho
        | some r' =>
          rw [q] at ho
          cases ho
          exact q
      split at hs
      · cases hs
      · split at hs
        · cases hs
        · dsimp only at hs
          split at hs
          · cases hs
          · cases hs
            exact h.set hf (like_iff.mpr ⟨rfl, rfl, rfl, id⟩)
theorem ComesOf.actW {B M : Wd} (h : ComesOf B M) (G : Good M) {d : Deed} (ok : DeedOk d) : ComesOf B (actW M d) := by
  unfold Vw.actW
  split
  · rename_i e
    exact h.act G ok e
  · exact h
end Vw
namespace Vw
open PySem PySem.Spec PyProof.Rows L2
local macro_rules | `(tactic| walk_at "rd") => `(tactic| simp only [tSeq, tNext, tIfS, tAsg, tRet, tRetN, tDrop, tVar, tC, tOp, tUn, tTest, tB, tAnd, tOr, tNot, tAndV, tOrV, tNotV, tIf, tChain, tCB, tCons, tNil, tCall, tMeth, tMake, tFld, sFld, tTup, tLst, tTupS, tLstS, tDNewKS, tDNewTS, tTold, tCmp, t2I, tIsN, tNotN, tPar, gName, gNil, gCons, gTup, gSub, rI0, rU, rEq, rNe, tDGet, tDIn, tDNotIn, sDPut, tDNewK, tDGet1, tDGet2, tDPop1, tDPop2, tBM, tBM0, tM0, tM1, tSl, tPart, tNoPart, tBreak, tCont, tThru, L2.start, List.map_cons, List.map_nil, List.length_cons, List.length_nil, List.cons_append, List.nil_append, List.append_nil, List.replicate_succ, List.replicate_zero, Nat.reduceAdd, Nat.reduceSub, Nat.zero_add, List.getElem?_cons_zero, List.getElem?_cons_succ, List.set_cons_zero, List.set_cons_succ, wipe, cxOf_K, tYes, List.cons.injEq, and_self, Option.some.injEq, V.int.injEq, V.bl.injEq, V.ref.injEq, V.str.injEq, exists_eq_left', exists_eq_left, exists_and_left, and_assoc, true_and, and_true, if_true, if_false, ite_true, ite_false, Bool.not_true, Bool.not_false, Bool.false_eq_true, reduceIte])
def NamesW (M : Wd) : Prop := ∀ p ∈ M.rows, nameZ p.2.who = true
theorem Fine.nw {M : Wd} {m : Nat} (f : Fine M m) : NamesW M := fun p hp => (f.ro p hp).1
theorem use_notB {a b : Bool} {H : Hp} {Q : VK} (q : Q (.bl (!decide (a = b))) H) : rNotB (.bl a) (.bl b) H Q := ⟨a, b, rfl, rfl, q⟩
def keyD (r : Row) : PyData := .tuple [.str r.who, .int r.under, .int r.time]
theorem shaped_key {r : Row} (h : nameZ r.who = true) : SeqAt.shaped (keyD r) = true := by
  have h1 := str_name h
  simp [keyD, SeqAt.shaped, PyData.canLay0, PyData.canLayAll0, PyData.depth, PyData.depthAll, h1]
theorem eqv_key (a b : Row) : PyData.eqv (keyD a) (keyD b) = (decide (a.who = b.who) && decide (a.under = b.under) && decide (a.time = b.time)) := by
  simp [keyD, PyData.eqv, PyData.eqvAll, Bool.and_assoc]
  rfl
def comesB (B M : Wd) : Bool := !decide (M.clock < B.clock) && !decide (M.came < B.came) && M.rows.all (rowOf B)
theorem comesB_iff {B M : Wd} : comesB B M = true ↔ ComesOf B M := by
  unfold comesB
  simp only [Bool.and_eq_true, Bool.not_eq_true', decide_eq_false_iff_not, List.all_eq_true]
  constructor
  · rintro ⟨⟨h1, h2⟩, h3⟩
    exact ⟨by omega, by omega, h3⟩
  · intro h
    have := h.k
    have := h.c
    exact ⟨⟨by omega, by omega⟩, h.r⟩
section
variable {P : Program} {w : World} {K : PySem.W.Frag} {mg : Str → Option Value} {base : Heap}
theorem dp_key {H : Hp} {p : Addr} {r : Row} (h : H p = some (.tup [.str r.who, .int r.under, .int r.time])) : Dp K H (.ref p) (keyD r) := .tup (.inl (.inl h)) (.cons (.str _) (.cons (.int _) (.cons (.int _) .nil)))
def spIsLike (K : PySem.W.Frag) : Sp := fun vs H Q _ => ∃ (a x v a2 x2 v2 : Addr) (r r2 : Row), vs = [.ref a, .ref a2] ∧ SayAt K H a x v r ∧ SayAt K H a2 x2 v2 r2 ∧ nameZ r.who = true ∧ nameZ r2.who = true ∧ ∀ H', Same H H' → Q (.bl (likeR r r2)) H'
abbrev N_is_like : List Str := ["one", "other"]
theorem sc_is_like : FnScope N_is_like ["one", "other"] (defScope s_is_like) := ⟨rfl, rfl, rfl, by decide +kernel, rfl, by decide +kernel, by decide +kernel⟩
theorem be_is_like : BindEq "is_like" "is_like" s_is_like ["one", "other"] := fun _ _ _ _ _ _ us hl => match us, hl with | [_, _], _ => rfl
theorem D_is_like (T : Txt K mg base) : Def P w K mg base 1 (He.ga K "is_like") ["one", "other"] (spIsLike K) := by
  refine mk_def T.f_is_like sc_is_like be_is_like (fun vs H Q E h => ?_) (fun cdv A outer s H vs Q E hr h => ?_)
  · obtain ⟨a, x, v, a2, x2, v2, r, r2, rfl, _⟩ := h
    rfl
  · obtain ⟨a, x, v, a2, x2, v2, r, r2, rfl, S1, S2, ne, nf, k⟩ := h
    refine ⟨_, (pss_cons (ps_if (pt_ned (pe_tupS (pa_cons (pe_fld (pv 0) (by rfl)) (pa_cons (pe_fld (pv 0) (by rfl)) (pa_cons (pe_fld (pv 0) (by rfl)) pa_nil)))) (pe_tupS (pa_cons (pe_fld (pv 1) (by rfl)) (pa_cons (pe_fld (pv 1) (by rfl)) (pa_cons (pe_fld (pv 1) (by rfl)) pa_nil)))) (by exact hr.units)) (pss_one (ps_ret pe_bl)) pss_nil)
      (pss_one (ps_ret (pe_or (pe_fld (pv 1) (by rfl)) (pe_one (pe_not (pe_fld (pv 0) (by rfl)))))))), ?_⟩
    walk_at "rd"
    have z9 : (10 : Nat) ≤ sizeLine := by rw [sizeLine_eq]; omega
    refine S1.fby T (S1.funder T (S1.ftime T ⟨by omega, fun p1 H1 n1 s1 e1 => (S2.same s1).fby T ((S2.same s1).funder T ((S2.same s1).ftime T ⟨by omega, fun p2 H2 n2 s2 e2 => ?_⟩))⟩))
    refine use_neD (dp_key (s2 _ _ e1)) (dp_key e2) (shaped_key ne) (shaped_key nf) ⟨_, rfl, ?_⟩
    rw [eqv_key]
    have s12 := s1.trans s2
    have e : likeR r r2 = ((decide (r.who = r2.who) && decide (r.under = r2.under) && decide (r.time = r2.time)) && (r2.struck || !r.struck)) := rfl
    cases c : (decide (r.who = r2.who) && decide (r.under = r2.under) && decide (r.time = r2.time)) with
    | false =>
      have := k H2 s12
      rw [e, c] at this
      exact iteT this
    | true =>
      refine iteF ((S2.same s12).fstruck T ⟨_, rfl, ?_⟩)
      have kk := k H2 s12
      rw [e, c] at kk
      cases c2 : r2.struck with
      | true =>
        rw [c2] at kk
        exact iteT kk
      | false =>
        rw [c2] at kk
        exact iteF ((S1.same s12).fstruck T ⟨_, rfl, kk⟩)
def spComes (K : PySem.W.Frag) : Sp := fun vs H Q _ => ∃ (B L : Lay), vs = [.ref B.p, .ref L.p] ∧ WoodAt K H B ∧ WoodAt K H L ∧ Good L.wd ∧ NamesW B.wd ∧ NamesW L.wd ∧ ∀ H', Same H H' → Q (.bl (comesB B.wd L.wd)) H'
abbrev N_comes_of : List Str := ["base", "wood", "number", "one"]
theorem sc_comes_of : FnScope N_comes_of ["base", "wood"] (defScope s_comes_of) := ⟨rfl, rfl, rfl, by decide +kernel, rfl, by decide +kernel, by decide +kernel⟩
theorem be_comes_of : BindEq "comes_of" "comes_of" s_comes_of ["base", "wood"] := fun _ _ _ _ _ _ us hl => match us, hl with | [_, _], _ => rfl
theorem D_comes_of (T : Txt K mg base) : Def P w K mg base 2 (He.ga K "comes_of") ["base", "wood"] (spComes K) := by
  refine mk_def T.f_comes_of sc_comes_of be_comes_of (fun vs H Q E h => ?_) (fun cdv A outer s H vs Q E hr h => ?_)
  · obtain ⟨B, L, rfl, _⟩ := h
    rfl
  · obtain ⟨B, L, rfl, WB, W, G, nb, nl, k⟩ := h
    refine ⟨_, (pss_cons (ps_if (PW.pt (pw_or (pt_cmpR op_lt (pe_md0 (pv 1) T.c_Wood.c T.m_Wood_now (D_Wood_now T) (by exact hr.mono (by first | decide | omega)) passE) (pe_md0 (pv 0) T.c_Wood.c T.m_Wood_now (D_Wood_now T) (by exact hr.mono (by first | decide | omega)) passE) (nomark _)) (pw_or1 (pt_cmpR op_lt (pe_fld (pv 1) (by rfl)) (pe_fld (pv 0) (by rfl)) (nomark _))))) (pss_one (ps_ret pe_bl)) pss_nil)
      (pss_cons (ps_for ownE rfl (pi_list (pe_md0 (pv 1) T.c_Wood.c T.m_Wood_numbers (D_Wood_numbers T) (by exact hr.mono (by first | decide | omega)) passE)) (pg_name (i := 2) sc_comes_of.nd rfl (Or.inl rfl))
      (pss_cons (ps_set (i := 3) sc_comes_of.nd rfl (Or.inl rfl) (pe_dg (pe_fld (pv 1) (by rfl)) (pv 2) (by exact hu_of hr)))
      (pss_one (ps_if (pt_cmpR op_gt (pv 2) (pe_fld (pv 0) (by rfl)) (nomark _)) (pss_one (ps_if (pt_cmpR op_lt (pe_fld (pv 3) (by rfl)) (pe_md0 (pv 0) T.c_Wood.c T.m_Wood_now (D_Wood_now T) (by exact hr.mono (by first | decide | omega)) passE) (nomark _)) (pss_one (ps_ret pe_bl)) pss_nil)) (pss_one (ps_if (PW.pt (pw_or (pt_cmp (pc_dni (pv 2) (pe_fld (pv 0) (by rfl)) (by exact hu_of hr))) (pw_or1 (pt_not (pt_val (pe_cd (D_is_like T) (by exact hr.mono (by first | decide | omega)) T.g_is_like passE (pa_cons (pe_dg (pe_fld (pv 0) (by rfl)) (pv 2) (by exact hu_of hr)) (pa_cons (pv 3) pa_nil)))))))) (pss_one (ps_ret pe_bl)) pss_nil))))))
      (pss_one (ps_ret pe_bl)))), ?_⟩
    walk_at "rd"
    have nofw : ∀ {L : Lay} {m : String}, m ≠ "sayings" → m ≠ "came" → m ≠ "clock" → (woodFs L.d L.came L.clock).lookup (Str.ofString m) = none := fun h1 h2 h3 => fw_no _ _ _ h1 h2 h3
    have ec : comesB B.wd L.wd = (!decide (L.clock < B.clock) && !decide (L.came < B.came) && L.rows.all (rowOf B.wd)) := rfl
    refine ⟨_, _, W.top, nofw (by decide) (by decide) (by decide), L, rfl, W, _, _, WB.top, nofw (by decide) (by decide) (by decide), B, rfl, WB, _, rfl, _, rfl, ?_⟩
    by_cases c1 : L.clock < B.clock
    · rw [decide_eq_true c1]
      have := k H (Same.refl _)
      rw [ec, decide_eq_true c1] at this
      exact iteT this
    · rw [decide_eq_false c1]
      refine iteF (W.fcame T (WB.fcame T ⟨_, rfl, _, rfl, ?_⟩))
      by_cases c2 : L.came < B.came
      · rw [decide_eq_true c2]
        have := k H (Same.refl _)
        rw [ec, decide_eq_true c2, decide_eq_false c1] at this
        exact iteT this
      · rw [decide_eq_false c2]
        rw [decide_eq_false c1, decide_eq_false c2] at ec
        have ec : comesB B.wd L.wd = L.rows.all (rowOf B.wd) := by rw [ec]; rfl
        rw [ec] at k
        have mem : ∀ n ∈ sortI (L.rows.map (·.1)), ∃ e, findE L.ents n = some e ∧ e.n = n ∧ (n, e.row) ∈ L.rows := fun n hn => by
          obtain ⟨p, hp, rfl⟩ := List.mem_map.mp ((sortI_perm _).mem_iff.mp hn)
          obtain ⟨e, he, rfl⟩ := List.mem_map.mp hp
          exact ⟨e, findE_of W.nk he, rfl, hp⟩
        refine iteF (forL2 (l := sortI (L.rows.map (·.1))) V.int (fun R h => ?_) (fun p i σ' H' => SqL K H' p ((sortI (L.rows.map (·.1))).map V.int) ∧ Same H H' ∧ (∀ n ∈ (sortI (L.rows.map (·.1))).take i, ∀ r, (n, r) ∈ L.rows → rowOf B.wd (n, r) = true) ∧ ∃ x2 x3, σ' = [some (.ref B.p), some (.ref L.p), x2, x3])
          (fun p H1 s1 h1 => ⟨h1, s1, (by intro n hn; simp at hn), _, _, rfl⟩) (fun p i σ' H' _ h => h.1) (fun p i n σ' H1 D' hi h1 nx ct rt _ => ?_) (fun p σ' H1 h1 => ?_))
        · walk_at "rd"
          exact ⟨_, _, W.top, nofw (by decide) (by decide) (by decide), use_numbers W G fun p1 H1 n1 s1 e1 => h p1 H1 s1 (SqL.of e1)⟩
        · obtain ⟨hp1, s1, al, x2, x3, rfl⟩ := h1
          obtain ⟨e, fe, en, me⟩ := mem n (List.mem_of_getElem? hi)
          have W1 := W.same s1
          have B1 := WB.same s1
          have se := W1.say e (findE_mem fe).1
          have tk : (sortI (L.rows.map (·.1))).take (i + 1) = (sortI (L.rows.map (·.1))).take i ++ [n] := by rw [List.take_add_one, hi]; rfl
          have uni : ∀ r, (n, r) ∈ L.rows → r = e.row := fun r hr => by
            have h1 := findR_of G.wf.nk hr
            have h2 := findR_of G.wf.nk me
            rw [h1] at h2
            exact Option.some.inj h2
          have go : ∀ {H2 : Hp}, Same H1 H2 → rowOf B.wd (n, e.row) = true → D'.nx [some (.ref B.p), some (.ref L.p), some (.int n), some (.ref e.a)] H2 := fun {H2} s2 hr => nx _ _ ⟨s2.seq hp1, s1.trans s2, fun m hm r hr2 => by
            rw [tk] at hm
            rcases List.mem_append.mp hm with hm | hm
            · exact al m hm r hr2
            · cases List.mem_singleton.mp hm
              rw [uni r hr2]
              exact hr, _, _, rfl⟩
          have no : ∀ {H2 : Hp}, Same H1 H2 → rowOf B.wd (n, e.row) = false → D'.rt (.bl false) H2 := fun {H2} s2 hr => by
            have := k H2 (s1.trans s2)
            rw [List.all_eq_false.mpr ⟨_, me, by rw [hr]; decide⟩] at this
            rw [rt]
            exact this
          walk_at "rd"
          refine W1.fsay T (W1.at fe (B1.fcame T ⟨_, rfl, ?_⟩))
          by_cases c3 : n > B.came
          · rw [decide_eq_true c3]
            have er : rowOf B.wd (n, e.row) = decide (B.clock ≤ e.row.time) := if_pos c3
            refine iteT ⟨_, rfl, se.ftime T ⟨_, _, B1.top, nofw (by decide) (by decide) (by decide), B, rfl, B1, _, rfl, _, rfl, ?_⟩⟩
            by_cases c4 : e.row.time < B.clock
            · rw [decide_eq_true c4]
              exact iteT (no (Same.refl _) (by rw [er]; exact decide_eq_false (by omega)))
            · rw [decide_eq_false c4]
              exact iteF (go (Same.refl _) (by rw [er]; exact decide_eq_true (by omega)))
          · rw [decide_eq_false c3]
            refine iteF (B1.fsay T ⟨_, rfl, _, .inl ⟨_, Sum.inl n, .inl B1.dic, rfl, rfl⟩, ?_⟩)
            rw [valE]
            have fR : findR B.wd.rows n = (findE B.ents n).map (·.row) := B.find n
            cases q : findE B.ents n with
            | none =>
              refine iteT (no (Same.refl _) ?_)
              unfold rowOf
              dsimp only
              rw [if_neg (show ¬ n > B.wd.came from c3), fR, q]
              rfl
            | some f =>
              have sf := B1.say f (findE_mem q).1
              have nf : nameZ f.row.who = true := nb (f.n, f.row) (List.mem_map.mpr ⟨f, (findE_mem q).1, rfl⟩)
              have er : rowOf B.wd (n, e.row) = likeR f.row e.row := by
                unfold rowOf
                dsimp only
                rw [if_neg (show ¬ n > B.wd.came from c3), fR, q]
                rfl
              refine iteF (B1.fsay T (B1.at q ⟨_, _, _, _, _, _, _, _, rfl, sf, se, nf, nl _ me, fun H2 s2 => ⟨_, rfl, ?_⟩⟩))
              cases cl : likeR f.row e.row with
              | true => exact iteF (go s2 (by rw [er]; exact cl))
              | false => exact iteT (no s2 (by rw [er]; exact cl))
        · obtain ⟨hp1, s1, al, x2, x3, rfl⟩ := h1
          walk_at "rd"
          rw [List.take_of_length_le (Nat.le_refl _)] at al
          have := k H1 s1
          rw [List.all_eq_true.mpr fun p hp => al p.1 ((sortI_perm _).mem_iff.mpr (List.mem_map.mpr ⟨p, hp, rfl⟩)) p.2 hp] at this
          exact this
end
end Vw
namespace Vw
open PySem PySem.Spec PyProof.Rows L2
/-! ### merges: the mirror -/
def nums (rs : Rows) : List Int := sortI (rs.map (·.1))
def rowAt (rs : Rows) (n : Int) : Row := (findR rs n).getD ⟨"", 0, "", 0, [], false⟩
def textIn (rs : Rows) (n : Int) : Option Str := (findR rs n).bind Row.told
def optV : Option Str → V
  | none => .non
  | some t => .str t
def optD : Option Str → PyData
  | none => .none
  | some t => .str t
def dedupS : List Str → List Str
  | [] => []
  | x :: l => if x ∈ l then dedupS l else x :: dedupS l
theorem mem_dedupS {x : Str} : ∀ {l : List Str}, x ∈ dedupS l ↔ x ∈ l
  | [] => Iff.rfl
  | y :: l => by
    unfold dedupS
    split
    · rename_i h
      rw [mem_dedupS, List.mem_cons]
      exact ⟨.inr, fun z => z.elim (fun e => e ▸ h) id⟩
    · rw [List.mem_cons, List.mem_cons, mem_dedupS]
theorem nodup_dedupS : ∀ l : List Str, (dedupS l).Nodup
  | [] => List.Pairwise.nil
  | y :: l => by
    unfold dedupS
    split
    · exact nodup_dedupS l
    · rename_i h
      exact List.nodup_cons.mpr ⟨fun z => h (mem_dedupS.mp z), nodup_dedupS l⟩
def namesIn (xs : List Str) : List Str := sortS (dedupS xs)
theorem names_eq {xs ys : List Str} (h1 : sortedS ys = true) (h2 : ys.Nodup) (h3 : ∀ k, k ∈ ys ↔ k ∈ xs) : ys = namesIn xs :=
  sortS_eq ((List.perm_ext_iff_of_nodup h2 (nodup_dedupS xs)).mpr fun k => (h3 k).trans mem_dedupS.symm) h1
theorem mem_namesIn {xs : List Str} {k : Str} : k ∈ namesIn xs ↔ k ∈ xs := (sortS_perm _).mem_iff.trans mem_dedupS
theorem nodup_namesIn (xs : List Str) : (namesIn xs).Nodup := (sortS_perm _).nodup_iff.mpr (nodup_dedupS xs)
def wayOf (b o t : List (Str × Int)) (z : Str) : Int := if voteOf o z ≠ voteOf b z then voteOf o z else voteOf t z
def namesV (b o t : List (Str × Int)) : List Str := namesIn (b.map (·.1) ++ o.map (·.1) ++ t.map (·.1))
def wayP (b o t : List (Str × Int)) (z : Str) : Option (Str × Int) := if wayOf b o t z ≠ 0 then some (z, wayOf b o t z) else none
def mergedV (b o t : List (Str × Int)) : List (Str × Int) := (namesV b o t).filterMap (wayP b o t)
def votesIn (o t : Option Row) (old : List (Str × Int)) : List (Str × Int) := match o, t with
  | some a, some b => mergedV old a.votes b.votes
  | some a, none => a.votes
  | none, some b => b.votes
  | none, none => old
def strIn (O T : Rows) (n : Int) : Bool := (textIn O n).isNone || (textIn T n).isNone
def mergedRow (B O T : Rows) (n : Int) (old : Row) : Row :=
  { who := old.who, under := old.under, text := if strIn O T n then "" else ((if textIn O n = textIn B n then textIn T n else textIn O n).getD ""), time := old.time,
    votes := votesIn (findR O n) (findR T n) old.votes, struck := strIn O T n }
def movedN (B O : Wd) (n : Int) : Int := if n ≤ B.came then n else n - B.came + O.came
def copyR (r : Row) (u t : Int) : Row := { r with under := u, time := t }
def part1 (B O T : Wd) (l : List Int) : Rows := l.map fun n => (n, mergedRow B.rows O.rows T.rows n (rowAt B.rows n))
def part2 (B O : Wd) (l : List Int) : Rows := (l.filter fun n => decide (n > B.came)).map fun n => (n, rowAt O.rows n)
def part3 (B O T : Wd) (l : List Int) : Rows := (l.filter fun n => decide (n > B.came)).map fun n => (movedN B O n, copyR (rowAt T.rows n) (movedN B O (rowAt T.rows n).under) (max (rowAt T.rows n).time O.clock))
def rawM (B O T : Wd) : Rows := part1 B O T (nums B.rows) ++ part2 B O (nums O.rows) ++ part3 B O T (nums T.rows)
def prune1 (rs : Rows) (n : Int) : Rows := if (rowAt rs n).struck && decide (repliesR rs n = []) then dropR rs n else rs
def prunedR (rs : Rows) : Rows := (nums rs).reverse.foldl prune1 rs
def tooMuch (rs : Rows) : Bool := decide (60 < rs.length) || (rs.map (·.1)).any fun n => decide (8 ≤ deepI rs n)
def mergedM (B O T : Wd) : Except Er Wd := if comesB B O = false ∨ comesB B T = false then .error .kin
  else if tooMuch (prunedR (rawM B O T)) then .error .full else .ok ⟨prunedR (rawM B O T), O.came + T.came - B.came, max O.clock T.clock⟩
theorem part1_app (B O T : Wd) (l : List Int) (n : Int) : part1 B O T (l ++ [n]) = part1 B O T l ++ [(n, mergedRow B.rows O.rows T.rows n (rowAt B.rows n))] := by simp [part1]
theorem part2_app (B O : Wd) (l : List Int) (n : Int) : part2 B O (l ++ [n]) = if n > B.came then part2 B O l ++ [(n, rowAt O.rows n)] else part2 B O l := by
  unfold part2
  rw [List.filter_append]
  by_cases h : n > B.came
  · rw [if_pos h]
    simp [h]
  · rw [if_neg h]
    simp [h]
theorem part3_app (B O T : Wd) (l : List Int) (n : Int) : part3 B O T (l ++ [n]) = if n > B.came then part3 B O T l ++ [(movedN B O n, copyR (rowAt T.rows n) (movedN B O (rowAt T.rows n).under) (max (rowAt T.rows n).time O.clock))] else part3 B O T l := by
  unfold part3
  rw [List.filter_append]
  by_cases h : n > B.came
  · rw [if_pos h]
    simp [h]
  · rw [if_neg h]
    simp [h]
theorem mergedV_app {b o t : List (Str × Int)} (l : List Str) (z : Str) : (l ++ [z]).filterMap (wayP b o t) = l.filterMap (wayP b o t) ++ (wayP b o t z).toList := by
  rw [List.filterMap_append]
  cases h : wayP b o t z <;> simp [h]
theorem wayP_key {b o t : List (Str × Int)} {z : Str} {p : Str × Int} (h : wayP b o t z = some p) : p.1 = z := by
  unfold wayP at h
  split at h
  · cases h
    rfl
  · cases h
theorem way_keys {b o t : List (Str × Int)} {l : List Str} {x : Str} (h : x ∈ (l.filterMap (wayP b o t)).map (·.1)) : x ∈ l := by
  obtain ⟨p, hp, rfl⟩ := List.mem_map.mp h
  obtain ⟨z, hz, e⟩ := List.mem_filterMap.mp hp
  rw [wayP_key e]
  exact hz
theorem way_nodup {b o t : List (Str × Int)} : ∀ {l : List Str}, l.Nodup → ((l.filterMap (wayP b o t)).map (·.1)).Nodup
  | [], _ => List.Pairwise.nil
  | z :: l, h => by
    obtain ⟨h1, h2⟩ := List.nodup_cons.mp h
    rw [List.filterMap_cons]
    cases e : wayP b o t z with
    | none => exact way_nodup h2
    | some p =>
      refine List.nodup_cons.mpr ⟨fun q => h1 ?_, way_nodup h2⟩
      rw [← wayP_key e]
      exact way_keys q
theorem dedupS_len : ∀ l : List Str, (dedupS l).length ≤ l.length
  | [] => Nat.le_refl _
  | q :: r => by
    have ih := dedupS_len r
    unfold dedupS
    split
    · rw [List.length_cons]; omega
    · rw [List.length_cons, List.length_cons]; omega
theorem namesV_len (b o t : List (Str × Int)) : (namesV b o t).length ≤ b.length + o.length + t.length := by
  have h1 := (sortS_perm (dedupS (b.map (·.1) ++ o.map (·.1) ++ t.map (·.1)))).length_eq
  have h3 := dedupS_len (b.map (·.1) ++ o.map (·.1) ++ t.map (·.1))
  unfold namesV namesIn
  rw [h1]
  rw [List.length_append, List.length_append, List.length_map, List.length_map, List.length_map] at h3
  omega
theorem way_length {b o t : List (Str × Int)} (l : List Str) : (l.filterMap (wayP b o t)).length ≤ l.length := List.length_filterMap_le _ _
end Vw
namespace Vw
open PySem PySem.Spec PyProof.Rows L2
/-! ### sets of texts, as many as there may be: made of a list, sorted -/
def keyS (e : Int × Value) : Str := match e.2 with
  | .str k _ => k
  | _ => ⟨#[]⟩
def GoodS (P : Program) (w : World) (e : Int × Value) : Prop := ∃ k tk, e.2 = Value.str k tk ∧ e.1 = (PySem.strKind P w).hash k
/-- the set of texts at a: M its members, at most n -/
def SetX (P : Program) (w : World) (h : Heap) (a : Addr) (M : Str → Prop) (n : Nat) : Prop :=
  ∃ o es ep t, h.get? a = some o ∧ o.ExactSet ∧ o.data = .set es ep t ∧ (∀ e ∈ es.toList, GoodS P w e) ∧ (es.toList.map keyS).Nodup ∧ (∀ k, M k ↔ k ∈ es.toList.map keyS) ∧
    es.size < scanBound ∧ t.fits es.size = true ∧ es.size ≤ n ∧ Ris t.place.toList ∧ (w.params.followText "set-order" = true ∨ t.led = true)
section
variable {P : Program} {w : World} {h h' : Heap} {a : Addr} {M : Str → Prop} {n : Nat}
theorem SetX.at (R : SetX P w h a M n) (k : ∀ o, h.get? a = some o → h'.get? a = some o) : SetX P w h' a M n := by
  obtain ⟨o, es, ep, t, ho, r⟩ := R
  exact ⟨o, es, ep, t, k o ho, r⟩
theorem SetX.mono {M' : Str → Prop} {n' : Nat} (R : SetX P w h a M n) (e : ∀ k, M' k ↔ M k) (hn : n ≤ n') : SetX P w h a M' n' := by
  obtain ⟨o, es, ep, t, ho, h1, h2, h3, h4, h5, h6, h7, h8, h9⟩ := R
  exact ⟨o, es, ep, t, ho, h1, h2, h3, h4, fun k => (e k).trans (h5 k), h6, h7, Nat.le_trans h8 hn, h9⟩
theorem sx_is (k : Str) (u : Tok) : (PySem.strKind P w).is k (.str k u) = true := by
  show Value.isStrOf k (.str k u) = true
  simp [Value.isStrOf]
theorem sx_elems {l : List (Int × Value)} (g : ∀ e ∈ l, GoodS P w e) : ElemsOf (PySem.strKind P w) l := fun e he => by
  obtain ⟨k, tk, h1, h2⟩ := g e he
  exact ⟨⟨k, by rw [h1]; exact sx_is k tk, h2⟩, by rw [h1] <;> rfl⟩
theorem sx_goodIs {e : Int × Value} (g : GoodS P w e) (k : Str) : (PySem.strKind P w).is k e.2 = true ↔ keyS e = k := by
  obtain ⟨k0, tk, h1, _⟩ := g
  unfold keyS
  rw [h1]
  constructor
  · intro q
    exact (PySem.strKind P w).inj (.str k0 tk) k0 k (sx_is k0 tk) q
  · rintro rfl
    exact sx_is k0 tk
theorem sx_mem {l : List (Int × Value)} (g : ∀ e ∈ l, GoodS P w e) (k : Str) : k ∈ l.map keyS ↔ ∃ e ∈ l, (PySem.strKind P w).is k e.2 = true := by
  rw [List.mem_map]
  constructor
  · rintro ⟨e, he, q⟩
    exact ⟨e, he, (sx_goodIs (g e he) k).2 q⟩
  · rintro ⟨e, he, q⟩
    exact ⟨e, he, (sx_goodIs (g e he) k).1 q⟩
end
section
variable {P : Program} {w : World} {A : Around} {E : Value → Shared → Prop} {s : Shared} {a : Addr} {M : Str → Prop} {n : Nat}
theorem sx_tail {g : Bool → Sem Unit} (hg : ∀ (b : Bool) (s₁ : Shared) (Q' : Unit → Shared → Prop), Q' () s₁ → wpAny (model P w) A (g b) Q' E s₁)
    {o : Obj} {es : Array (Int × Value)} {ep : Nat} {t : SetTable} (ho : s.heap.get? a = some o) (hex : o.ExactSet) (hd : o.data = .set es ep t)
    {es1 : Array (Int × Value)} {t2 : SetTable} {M' : Str → Prop} (g1 : ∀ e ∈ es1.toList, GoodS P w e) (nd1 : (es1.toList.map keyS).Nodup) (m1 : ∀ k, M' k ↔ k ∈ es1.toList.map keyS)
    (hb1 : es1.size < scanBound) (hf2 : t2.fits es1.size = true) (hr : Ris t2.place.toList) (hl : w.params.followText "set-order" = true ∨ t2.led = true) {wasDummy : Bool} {R : Option Bool → Shared → Prop}
    (hR : ∀ h', Heap.SameBut a s.heap h' → SetX P w h' a M' es1.size → R (some true) { s with heap := h' }) :
    wpAny (model P w) A (do
        storeSet a es1 t2
        if (!wasDummy && t2.tooFull) = true then do
            g (relayAll t2 es1 (SetTable.grown es1.size)).2.2
            storeSet a (relayAll t2 es1 (SetTable.grown es1.size)).1 (relayAll t2 es1 (SetTable.grown es1.size)).2.1
            pure (some true)
          else pure (some true)) R E s := by
  refine wpAny_bind (wpAny_storeSet_of ho hd ?_ (fits_of_scanBound hb1))
  have ho1 := store_at (es' := es1) (t' := t2) ho hd
  have sb1 := Heap.SameBut.update s.heap a (Obj.putSet es1 t2)
  split
  · have pm := relayAll_perm t2 es1 (SetTable.grown es1.size)
    have hf3 := relayAll_fits t2 es1 (SetTable.grown es1.size)
    have hr3 := relayAll_ris t2 es1 (SetTable.grown es1.size)
    have hl3 := relayAll_led t2 es1 (SetTable.grown es1.size)
    generalize relayAll t2 es1 (SetTable.grown es1.size) = Z at pm hf3 hr3 hl3 ⊢
    obtain ⟨es2, t3, gave⟩ := Z
    dsimp only at pm hf3 hr3 hl3 ⊢
    have hsz : es2.size = es1.size := by rw [← Array.length_toList, pm.length_eq, Array.length_toList]
    have hb2 : es2.size < scanBound := by rw [hsz]; exact hb1
    refine wpAny_bind (hg _ _ _ ?_)
    refine wpAny_bind (wpAny_storeSet_of ho1 rfl ?_ (fits_of_scanBound hb2))
    have ho2 := store_at (es' := es2) (t' := t3) ho1 rfl
    refine wpAny_pure (hR _ (sb1.trans (Heap.SameBut.update _ a _)) ?_)
    exact ⟨_, es2, _, t3, ho2, hex, rfl, fun e he => g1 e (pm.mem_iff.mp he), (pm.map keyS).nodup_iff.mpr nd1, fun k => (m1 k).trans (pm.map keyS).mem_iff.symm, hb2, hf3, Nat.le_of_eq hsz, hr3,
      hl.imp id fun z => by rw [hl3]; exact z⟩
  · exact wpAny_pure (hR _ sb1 ⟨_, es1, _, t2, ho1, hex, rfl, g1, nd1, m1, hb1, hf2, Nat.le_refl _, hr, hl⟩)
theorem sx_add {k : Str} {tk : Tok} {Q : Bool → Shared → Prop} (R : SetX P w s.heap a M n) (room : n + 1 < scanBound)
    (hQ : ∀ (b : Bool) h', Heap.SameBut a s.heap h' → SetX P w h' a (fun j => M j ∨ j = k) (n + 1) → Q b { s with heap := h' }) :
    wpAny (model P w) A (setAddHashed a (.str k tk) ((PySem.strKind P w).hash k)) Q E s := by
  obtain ⟨o, es, ep, t, ho, hex, hd, g, nd, hm, hb, hf, hn, hr, hl⟩ := R
  have hkey : (PySem.strKind P w).is k (.str k tk) = true := sx_is k tk
  have hsc : (Value.str k tk).scannable = true := rfl
  have hel : ElemsOf (PySem.strKind P w) es.toList := sx_elems g
  unfold setAddHashed setAddHashedIn
  refine wpAny_holding (wpAny_bind (wpAny_setState_of ho hd hf ?_))
  dsimp only
  rw [byScan_of hsc hb hel]
  simp only [↓reduceIte]
  unfold setAddByScan
  refine wpAny_bind ?_
  refine wpAny_bind (wpAny_rule ?_)
  refine wpAny_bind (wpAny_setScan_of hkey ho hd hf hel ?_)
  cases hfi : List.findIdx? (fun e => (PySem.strKind P w).is k e.2) es.toList with
  | some j =>
    dsimp only
    obtain ⟨hj, pj, _⟩ := List.findIdx?_eq_some_iff_getElem.mp hfi
    have hSk : M k := (hm k).2 ((sx_mem (P := P) (w := w) g k).2 ⟨es.toList[j], List.getElem_mem hj, pj⟩)
    refine wpAny_pure (wpAny_pure ?_)
    exact hQ _ s.heap (Heap.SameBut.refl a s.heap) ⟨o, es, ep, t, ho, hex, hd, g, nd, fun i => by
      rw [← hm i]
      exact ⟨fun z => z.elim id (fun e => e ▸ hSk), .inl⟩, hb, hf, by omega, hr, hl⟩
  | none =>
    dsimp only
    have hnk : k ∉ es.toList.map keyS := fun z => by
      obtain ⟨e, he, q⟩ := (sx_mem (P := P) (w := w) g k).1 z
      have c := List.findIdx?_eq_none_iff.mp hfi e he
      rw [q] at c
      cases c
    have hgw : ∀ (b : Bool) {s₁ : Shared} {Q' : Unit → Shared → Prop}, Q' () s₁ → wpAny (model P w) A (match b with | true => rule "set.scan.the-table-gave-way" | false => pure ()) Q' E s₁ :=
      fun b s₁ Q' q => by cases b <;> first | exact wpAny_pure q | exact wpAny_rule q
    have pm := layNew_perm t es ((PySem.strKind P w).hash k) (.str k tk)
    have hf1 := layNew_fits t es ((PySem.strKind P w).hash k) (.str k tk)
    have hr1 := layNew_ris t es ((PySem.strKind P w).hash k) (.str k tk) hr
    have hl1 := layNew_led t es ((PySem.strKind P w).hash k) (.str k tk)
    generalize layNew t es ((PySem.strKind P w).hash k) (.str k tk) = Z at pm hf1 hr1 hl1 ⊢
    obtain ⟨es1, t1, wasDummy, gave⟩ := Z
    dsimp only at pm hf1 hr1 hl1 ⊢
    rw [Array.toList_push] at pm
    have pc : es1.toList.Perm (((PySem.strKind P w).hash k, Value.str k tk) :: es.toList) := pm.trans (List.perm_append_singleton _ _)
    have pk : (es1.toList.map keyS).Perm (k :: es.toList.map keyS) := pc.map keyS
    have g1 : ∀ e ∈ es1.toList, GoodS P w e := fun e he => by
      rcases List.mem_cons.mp (pc.mem_iff.mp he) with z | z
      · rw [z]; exact ⟨k, tk, rfl, rfl⟩
      · exact g e z
    have nd1 : (es1.toList.map keyS).Nodup := pk.nodup_iff.mpr (List.nodup_cons.mpr ⟨hnk, nd⟩)
    have m1 : ∀ i, (M i ∨ i = k) ↔ i ∈ es1.toList.map keyS := fun i => by
      rw [hm i, pk.mem_iff, List.mem_cons]
      exact Or.comm
    have hsz : es1.size = es.size + 1 := by rw [← Array.length_toList, pc.length_eq, List.length_cons, Array.length_toList]
    have hb1 : es1.size < scanBound := by rw [hsz]; omega
    have hled : w.params.followText "set-order" = true ∨ t1.led = true := hl.imp id fun z => by rw [hl1]; exact z
    have fin : ∀ b h', Heap.SameBut a s.heap h' → SetX P w h' a (fun j => M j ∨ j = k) es1.size → Q b { s with heap := h' } := fun b h' sb r => hQ b h' sb (r.mono (fun _ => Iff.rfl) (by omega))
    refine wpAny_bind (hgw _ ?_)
    split
    · refine wpAny_bind ?_
      rw [hashByValue_scannable 8 hsc]
      refine wpAny_pure ?_
      refine sx_tail ?_ ho hex hd g1 nd1 m1 hb1 ?_ ?_ ?_ ?_
      · intro b s₁ Q' q; cases b <;> first | exact wpAny_pure q | exact wpAny_rule q
      · first | (split <;> first | exact hf1 | exact SetTable.fits_plain_off hf1) | exact hf1
      · first | (split <;> exact hr1) | exact hr1
      · first | (split <;> exact hled) | exact hled
      · intro h' sb r; dsimp only; exact wpAny_pure (fin _ h' sb r)
    · refine wpAny_bind (wpAny_pure ?_)
      simp only [↓reduceIte]
      refine sx_tail ?_ ho hex hd g1 nd1 m1 hb1 hf1 hr1 hled ?_
      · intro b s₁ Q' q; cases b <;> first | exact wpAny_pure q | exact wpAny_rule q
      · intro h' sb r; dsimp only; exact wpAny_pure (fin _ h' sb r)
theorem sx_fresh {h : Heap} (P : Program) (w : World) : SetX P w (h.push { cls := .type "set", dict := none, data := .set #[] 0 (.fresh 0 0 (!w.params.followText "set-order")) }) h.objs.size (fun _ => False) 0 :=
  ⟨_, #[], 0, _, Heap.get?_push_size _ rfl, ⟨rfl, rfl, rfl⟩, rfl, (fun e he => by simp at he), (by simp), (fun k => by simp), (by decide), (by rfl), Nat.le_refl _, List.Pairwise.nil, by
    show _ ∨ (!w.params.followText "set-order") = true
    cases w.params.followText "set-order"
    · exact .inr rfl
    · exact .inl rfl⟩
end
section
variable {prog : Program} {w : World} {A : Around} {R : Result → Shared → Prop} {I : Addr} {fp wr : List Addr} {G : Array GenState → Array GenState → Prop} {n : Nat} {P : Nat → Value → Prop} {St : Nat → Shared → Prop}
theorem sx_loop (W : WalksS prog w A.in1 I fp wr G n P St) (S : Addr) (hSf : S ∉ fp)
    (val : Nat → Str) (hval : ∀ i v, P i v → ∃ t, v = .str (val i) t) (hb : n + 1 < scanBound) :
    ∀ (k i : Nat) (s : Shared), n - i = k → i ≤ n → St i s →
      SetX prog w s.heap S (fun x => ∃ j, j < i ∧ x = val j) i →
      (∀ s', Moved (S :: wr) G s s' → SetX prog w s'.heap S (fun x => ∃ j, j < n ∧ x = val j) n → R (.ok (.ret .none)) s') →
      codeAny (model prog w) A (.builtin "set.update.loop" ⟨[.ref S, .ref I], []⟩) R s := by
  have hSw : S ∉ wr := fun h => hSf (W.sub _ h)
  have hsub : ∀ b ∈ wr, b ∈ S :: wr := fun b hb => List.mem_cons_of_mem _ hb
  intro k
  induction k with
  | zero =>
    intro i s hk hi hst hS hR
    have hin : i = n := by omega
    subst hin
    refine codeAny_builtin PyProof.Rows.F.entry_set_update_loop ?_
    rw [Around.under_plainId PyProof.Rows.F.plain_set_update_loop _]
    show wpAny _ A.in1 (pyNext (.ref I) >>= _) _ _ s
    refine wpAny_bind (W.done s _ _ hst fun s' hm => ?_)
    show wpAny _ A.in1 (ret Value.none) _ _ s'
    exact wpAny_pure (hR s' (hm.mono hsub) (hS.at fun o e => hm.heap S _ hSw e))
  | succ k ih =>
    intro i s hk hi hst hS hR
    have hlt : i < n := by omega
    refine codeAny_builtin PyProof.Rows.F.entry_set_update_loop ?_
    rw [Around.under_plainId PyProof.Rows.F.plain_set_update_loop _]
    show wpAny _ A.in1 (pyNext (.ref I) >>= _) _ _ s
    refine wpAny_bind (W.item i s _ _ hlt hst fun v s' hP hst' hm => ?_)
    obtain ⟨t, rfl⟩ := hval i v hP
    have hS' : SetX prog w s'.heap S (fun x => ∃ j, j < i ∧ x = val j) i := hS.at fun o e => hm.heap S _ hSw e
    show wpAny _ A.in1 (holding [Value.str (val i) t] (setAdd S (.str (val i) t)) >>= _) _ _ s'
    refine wpAny_bind (wpAny_holding ?_)
    unfold setAdd
    refine wpAny_holding ?_
    refine wpAny_bind ((PySem.strKind prog w).pyHash (k := val i) (sx_is _ _) ?_)
    refine sx_add (s := { s' with toks := s'.toks + 1 }) hS' (by omega) fun b h' hsb hS2 => ?_
    have hSi : SetX prog w h' S (fun x => ∃ j, j < i + 1 ∧ x = val j) (i + 1) := hS2.mono (fun x => by
      constructor
      · rintro ⟨j, hj, rfl⟩
        by_cases e : j = i
        · exact .inr (by rw [e])
        · exact .inl ⟨j, by omega, rfl⟩
      · rintro (⟨j, hj, rfl⟩ | rfl)
        · exact ⟨j, by omega, rfl⟩
        · exact ⟨i, by omega, rfl⟩) (Nat.le_refl _)
    refine wpAny_pure ⟨plainId_quiet PyProof.Rows.F.plain_set_update_loop _, ih (i + 1) _ (by omega) hlt (W.frame _ s' _ _ hst' (Nat.le_succ _) fun b hb o e => ?_) hSi fun s'' hm'' hS'' => ?_⟩
    · rw [hsb.2 b (fun h : b = S => hSf (by rw [← h]; exact hb))]; exact e
    · refine hR s'' (Moved.trans W.gtrans ((hm.mono hsub).then_heap (Nat.le_succ _) fun b o hb e => ?_) hm'') hS''
      rw [hsb.2 b (fun h : b = S => hb (by rw [h]; exact List.mem_cons_self))]; exact e
end
section
variable {P : Program} {w : World} {A : Around} {E : Value → Shared → Prop} {s : Shared}
theorem sx_new {l : Addr} {vs : List Value} {xs : List Str} {Q : Value → Shared → Prop} (hh : A.handled = none) (hl : s.heap.IsList l vs.toArray) (hi : StrsAre vs xs) (hb : xs.length + 1 < scanBound)
    (h : ∀ (h' : Heap) (tk : Nat), SetX P w h' s.heap.objs.size (fun x => x ∈ xs) xs.length → (∀ b o, s.heap.get? b = some o → h'.get? b = some o) → Q (.ref s.heap.objs.size) { s with heap := h', toks := tk }) :
    wpAny (model P w) A (call (.type "set") [.ref l]) Q E s := by
  have hlen : vs.length = xs.length := hi.len_eq
  obtain ⟨c, tl, hmro⟩ := F.called_set.mro
  have hmade := F.called_set.made
  have hsub := F.called_set.sub
  refine wpAny_call (codeAny_of_tree ?_)
  show wpAny _ _ (callAny (.type "set") _) _ _ _
  refine wpAny_pure ⟨Code.quiet_builtin _ (by decide +kernel), codeAny_builtin F.entry_type_call ?_⟩
  rw [Around.under_plain (weight_type_call_type "set" [.ref l] []) rfl]
  have h1 := F.called_set.notType
  have h2 := F.called_set.canCreate
  have hct := F.typeCall_set_1 (.ref l)
  repeat (any_goals (first | assumption | wp_step))
  refine codeAny_mono (code_set_led1 (.ref l) (E := E) (Q₁ := fun obj s₁ => obj = .ref s.heap.objs.size ∧ s₁ = { s with heap := s.heap.push { cls := .type "set", dict := none, data := .set #[] 0 (.fresh 0 0 (!w.params.followText "set-order")) } }) ⟨rfl, rfl⟩) fun r s₁ hr => ?_
  cases r with
  | error e => exact hr
  | ok fl =>
    cases fl with
    | ret obj =>
      obtain ⟨rfl, rfl⟩ := hr
      have hS : (s.heap.push { cls := .type "set", dict := none, data := .set #[] 0 (.fresh 0 0 (!w.params.followText "set-order")) }).get? s.heap.objs.size = some { cls := .type "set", dict := none, data := .set #[] 0 (.fresh 0 0 (!w.params.followText "set-order")) } := Heap.get?_push_size _ rfl
      have hT : Shared.TypeIs { s with heap := s.heap.push { cls := .type "set", dict := none, data := .set #[] 0 (.fresh 0 0 (!w.params.followText "set-order")) } } (.ref s.heap.objs.size) "set" := ⟨_, hS, rfl⟩
      have hli := F.called_set.init.lookup
      have hbi := F.called_set.init.bind (.ref s.heap.objs.size)
      have hfr := sx_fresh (h := s.heap) P w
      repeat (any_goals (first | assumption | wp_step))
      refine codeAny_mono (codeAny_call_builtin (R := wants (fun r s₂ => r = .none ∧ ∃ h' tk, s₂ = { s with heap := h', toks := tk } ∧
          SetX P w h' s.heap.objs.size (fun x => x ∈ xs) xs.length ∧
          (∀ b o, s.heap.get? b = some o → h'.get? b = some o)) E) F.called_set.init.plain F.entry_set_init (check_set_init_1 hT ?_)) fun r₂ s₂ hr₂ => ?_
      · obtain ⟨ol, hol, hcl, nl, hdl⟩ := hl
        obtain ⟨ocls, odict, odata, oslots⟩ := ol
        simp only at hcl hdl
        subst hcl; subst hdl
        have hol' : (s.heap.push { cls := .type "set", dict := none, data := .set #[] 0 (.fresh 0 0 (!w.params.followText "set-order")) }).get? l = some { cls := .type "list", dict := odict, data := .seq vs.toArray nl, slots := oslots } := Heap.get?_push_of_some _ hol
        have hsls := F.sub_list_set
        have hslf := F.sub_list_frozenset
        have hne : (Value.type "list" == Value.type "dict") = false := by decide
        have hl1 : (s.heap.push { cls := .type "set", dict := none, data := .set #[] 0 (.fresh 0 0 (!w.params.followText "set-order")) }).IsList l vs.toArray := ⟨_, hol', rfl, nl, rfl⟩
        unfold Builtin.«set.__init__» noKeywords Builtin.Frozenset.updateFrom
        generalize hPI : pyIter = PI
        wp_walk
        subst hPI
        refine wpAny_pyIter_list hl1 ?_
        refine wpAny_bind (wpAny_runValue ?_)
        have hlS : l < s.heap.objs.size := Heap.lt_size hol
        have hh3 : A.in1.in1.in1.handled = none := by simp [hh]
        have hneI : l ≠ (s.heap.push { cls := .type "set", dict := none, data := .set #[] 0 (.fresh 0 0 (!w.params.followText "set-order")) }).objs.size := by
          rw [Heap.size_push]; exact Nat.ne_of_lt (Nat.lt_succ_of_lt hlS)
        have hSf : s.heap.objs.size ∉ [(s.heap.push { cls := .type "set", dict := none, data := .set #[] 0 (.fresh 0 0 (!w.params.followText "set-order")) }).objs.size, l] := by
          rw [Heap.size_push]; simp only [List.mem_cons, List.mem_singleton, List.not_mem_nil, or_false, not_or]
          exact ⟨Nat.ne_of_lt (Nat.lt_succ_self _), Nat.ne_of_gt hlS⟩
        have hval : ∀ (i : Nat) (v : Value), vs.toArray[i]? = some v → ∃ t, v = .str ((fun i => xs.getD i ⟨#[]⟩) i) t := fun i v hv => by
          obtain ⟨y, t, e1, e2⟩ := StrsAre.item hi i v (by simpa using hv)
          exact ⟨t, by rw [e1]; simp [e2]⟩
        have hsz : vs.toArray.size = xs.length := by rw [List.size_toArray]; exact hlen
        refine sx_loop ((Walks.list hh3 _ l hneI vs.toArray).toS) s.heap.objs.size
          hSf (fun i => xs.getD i ⟨#[]⟩) hval (by rw [hsz]; exact hb) (vs.toArray.size - 0) 0 _ (by omega) (Nat.zero_le _)
          ⟨⟨_, Heap.get?_push_size _ rfl, rfl, rfl⟩, (hl1.push _)⟩ ?hS0 ?hR
        case hS0 =>
          exact (hfr.at fun o e => Heap.get?_push_of_some _ e).mono (fun k => ⟨fun ⟨j, hj, _⟩ => absurd hj (Nat.not_lt_zero _), False.elim⟩) (Nat.le_refl _)
        case hR =>
          intro s' hm hS'
          obtain ⟨h', g', d', tk', os'⟩ := s'
          have eg : g' = s.gens := hm.gens
          have ed : d' = s.drawn := hm.drawn
          have eo : os' = s.os := hm.os
          subst eg; subst ed; subst eo
          show wpAny _ _ _ _ _ _
          refine wpAny_pure ?_
          show wpAny _ _ (ret Value.none) _ _ _
          refine wpAny_pure ⟨rfl, h', tk', rfl, hS'.mono (fun x => ?_) (Nat.le_of_eq hsz), fun b o e => ?_⟩
          · rw [hsz]
            constructor
            · intro hx
              obtain ⟨j, hj, e⟩ := List.getElem_of_mem hx
              exact ⟨j, hj, by simp [List.getD, hj, e]⟩
            · rintro ⟨j, hj, rfl⟩
              simp [List.getD, hj]
          · have hb : b < s.heap.objs.size := Heap.lt_size e
            have hb1 : b ≠ s.heap.objs.size := Nat.ne_of_lt hb
            have hb2 : b ≠ (s.heap.push { cls := .type "set", dict := none, data := .set #[] 0 (.fresh 0 0 (!w.params.followText "set-order")) }).objs.size := by
              rw [Heap.size_push]; exact Nat.ne_of_lt (Nat.lt_succ_of_lt hb)
            exact hm.heap b o (by simp only [List.mem_cons, List.mem_singleton, List.not_mem_nil, or_false, not_or]; exact ⟨hb1, hb2⟩) (Heap.get?_push_of_some _ (Heap.get?_push_of_some _ e))
      · cases r₂ with
        | error e => exact hr₂
        | ok fl₂ =>
          cases fl₂ with
          | ret r =>
            obtain ⟨rfl, h', tk, rfl, hS', hk'⟩ := hr₂
            repeat (any_goals (first | assumption | wp_step))
            exact h _ _ hS' hk'
          | _ => exact hr₂.elim
    | _ => exact hr.elim
theorem sx_sorted {a : Addr} {M : Str → Prop} {n : Nat} {Q : Value → Shared → Prop} (R : SetX P w s.heap a M n) (hh : A.handled = none)
    (hQ : ∀ s' p (out : Array Value) (c : Nat) (ys : List Str), (∀ b o, s.heap.get? b = some o → s'.heap.get? b = some o) → s'.gens = s.gens → s'.os = s.os → s.heap.objs.size ≤ p →
      s'.heap.get? p = some (seqObj "list" out c) → StrsAre out.toList ys → sortedS ys = true → ys.Nodup → (∀ k, k ∈ ys ↔ M k) → ys.length ≤ n → ys.length < scanBound → Q (.ref p) s') :
    wpAny (model P w) A (call (.builtin "sorted") [.ref a]) Q E s := by
  obtain ⟨o, es, ep, t, ho, hex, hd, g, nd, hm, hb, hf, hn, hr, hl⟩ := R
  refine Calls.call_function_entry kind_sorted plain_sorted entry_sorted (args_sorted1 _) ?_
  unfold Builtin.«sorted»
  refine wpAny_bind (m := checkCount "sorted" 1 1 _) (wpAny_pure ?_)
  refine wpAny_bind (collect_set (A := A.in1) hh ⟨o, ho, hex.1, hd⟩ hf hb hr hl fun s1 vs k1 hz g1 o1 pm => ?_)
  have hvl : vs.length = es.size := by rw [pm.length_eq, List.length_map, Array.length_toList]
  have tx : StrsAre vs (vs.map strOf) := strsAre_map vs fun v hv => by
    obtain ⟨e, he, q⟩ := List.mem_map.mp (pm.mem_iff.mp hv)
    obtain ⟨k, tk, h1, _⟩ := g e he
    exact ⟨k, tk, by rw [← q]; exact h1⟩
  have pk : (vs.map strOf).Perm (es.toList.map keyS) := by
    have q := pm.map strOf
    rw [List.map_map] at q
    refine q.trans (List.Perm.of_eq (List.map_congr_left fun e he => ?_))
    obtain ⟨k, tk, h1, _⟩ := g e he
    show strOf e.2 = keyS e
    unfold keyS
    rw [h1]
    rfl
  have z9 : scanBound < sizeLine := by rw [sizeLine_eq]; unfold scanBound; omega
  refine wpAny_bind (wpAny_newList ?_ (by omega))
  have hoL : (s1.heap.push (seqObj "list" vs.toArray 0)).get? s1.heap.objs.size = some (seqObj "list" vs.toArray 0) := Heap.get?_push_size _ rfl
  refine wpAny_bind (wpAny_holding (wpAny_call_entry slot_list_sort (s := { s1 with heap := s1.heap.push (seqObj "list" vs.toArray 0) }) ⟨_, hoL, rfl⟩ entry_list_sort (list_sort_treeKAny strKind_oneLt (s := { s1 with heap := s1.heap.push (seqObj "list" vs.toArray 0) }) hoL tx.keysOf (fun v₁ v₂ rest e => keyKind_strs (by rw [← e]; exact tx)) (by omega) fun st pm2 so => ⟨_, rfl, ?_⟩) (args_list_sort _)))
  obtain ⟨ys, y1, y2, y3⟩ := sorted_out_str tx pm2 so
  obtain ⟨c, hc⟩ := sortedHeap_at (vs := vs) (out := (arrOf st).map (·.2)) hoL
  have pn : ys.Perm (es.toList.map keyS) := y2.trans pk
  have hyl : ys.length = es.size := by rw [pn.length_eq, List.length_map, Array.length_toList]
  refine wpAny_pure ⟨_, rfl, hQ _ s1.heap.objs.size ((arrOf st).map (·.2)) c ys (fun b u e => ?_) g1 o1 hz hc y1 y3 (pn.nodup_iff.mpr nd) (fun k => by rw [pn.mem_iff, ← hm k]) (by omega) (by omega)⟩
  have q := k1 b u e
  have hlt := Heap.lt_size q
  show (sortedHeap (s1.heap.push (seqObj "list" vs.toArray 0)) s1.heap.objs.size vs ((arrOf st).map (·.2))).get? b = some u
  rw [sortedHeap_old (Nat.ne_of_lt hlt) (by rw [size_push']; exact Nat.lt_succ_of_lt hlt)]
  exact Heap.get?_push_of_some _ q
end
/-! ### the rules -/
def SetXO (P : Program) (w : World) (a : Addr) (xs : List Str) : HO := .ext fun h => SetX P w h a (fun x => x ∈ xs) xs.length
theorem setXO_new {P : Program} {w : World} {H : Hp} {h : Heap} {a : Addr} {xs : List Str} (R : SetX P w h a (fun x => x ∈ xs) xs.length) : ObjOk P w H h a (SetXO P w a xs) := by
  have ⟨o, es, ep, t, ho, r⟩ := R
  exact ⟨R, ⟨o, ho⟩, fun h1 h2 p k => SetX.at p k⟩
section
variable {X : Cx}
/-- set(xs), xs a list of texts -/
def rSetX (K : PySem.W.Frag) (P : Program) (w : World) : List V → Hp → VK → Prop := fun vs H Q => ∃ (l : Addr) (xs : List Str), vs = [V.ref l] ∧ SqL K H l (xs.map V.str) ∧ xs.length ≤ 3000 ∧ ∀ a H', H a = none → Same H H' → H' a = some (SetXO P w a xs) → Q (.ref a) H'
theorem cr_setX (hc : X.calm = true) : CallR X (.type "set") (rSetX X.K X.prog X.w) := by
  intro pins s σ H vs us Q I r h
  obtain ⟨l, xs, rfl, hl, hf, q⟩ := h
  rw [Vals.ref1 r]
  obtain ⟨its, rv, pl, hz⟩ := I.list hl
  have tx : StrsAre its xs := by
    clear pl hz hl hf q
    induction xs generalizing its with
    | nil => cases rv; exact .nil
    | cons x t ih =>
      cases rv with
      | cons h1 h2 =>
        obtain ⟨tk, rfl⟩ := h1
        exact .cons _ _ (ih _ h2)
  have hn : H s.heap.objs.size = none := I.hok.fresh (Nat.le_refl _)
  refine sx_new (P := X.prog) (w := X.w) (I.ok.hd hc) pl.isList tx (by unfold scanBound; omega) fun h' tk R k => ?_
  exact ⟨.ref s.heap.objs.size, upd H s.heap.objs.size (SetXO X.prog X.w s.heap.objs.size xs), I.laid (t' := tk) k (Nat.le_refl _) (setXO_new R), rfl, q _ _ hn (Same.new hn) upd_same⟩
/-- sorted(set of texts) -/
def rSortedX (P : Program) (w : World) : List V → Hp → VK → Prop := fun vs H Q => ∃ (a : Addr) (xs : List Str), vs = [V.ref a] ∧ H a = some (SetXO P w a xs) ∧
  ∀ ys : List Str, sortedS ys = true → ys.Nodup → (∀ k, k ∈ ys ↔ k ∈ xs) → New (.lst (ys.map V.str)) H Q
theorem cr_sortedX (hc : X.calm = true) : CallR X (.builtin "sorted") (rSortedX X.prog X.w) := by
  intro pins s σ H vs us Q I r h
  obtain ⟨a, xs, rfl, ha, q⟩ := h
  have R0 : SetX X.prog X.w s.heap a (fun x => x ∈ xs) xs.length := (I.hok a _ ha).1
  rw [Vals.ref1 r]
  refine sx_sorted R0 (I.ok.hd hc) fun s' p out c ys k g o hp hg hs h1 h2 h3 h4 h5 => ?_
  have hlen : (ys.map V.str).length ≤ sizeLine := by
    have z9 : scanBound < sizeLine := by rw [sizeLine_eq]; unfold scanBound; omega
    rw [List.length_map]; omega
  have hn : H p = none := I.hok.fresh hp
  have J : Inv X pins σ (upd H p (.lst (ys.map V.str))) { s with heap := s'.heap, gens := s'.gens, drawn := s'.drawn, toks := s'.toks } :=
    I.call (ch := []) (Un.laid k hp hn) (I.hok.laid k hp ⟨hlen, out.toList, c, vals_of_strs hs, hg⟩) (by rw [g]; exact I.bare) (fun _ z => nomatch z)
  have e : s' = { s with heap := s'.heap, gens := s'.gens, drawn := s'.drawn, toks := s'.toks } := by
    cases s'
    cases s
    cases o
    rfl
  rw [e]
  exact ⟨.ref p, _, J, rfl, (q ys h1 h2 h3).use p hn⟩
/-- list(d): the keys -/
def rListDN : List V → Hp → VK → Prop := fun xs H Q => ∃ (a : Addr) (kvs : List (Key × V)), xs = [.ref a] ∧ Rd H a (.dK kvs) ∧ New (.lst (kvs.map fun kv => kV kv.1)) H Q
theorem call_listDN (hc : X.calm = true) : CallR X (.type "list") rListDN := fun pins s σ H vs us Q I r h => by
  obtain ⟨a, kvs, h1, h2, h3⟩ := h
  exact call_listD hc pins s σ H vs us Q I r ⟨a, kvs, h1, h2, h3.use⟩
/-- xs != [] -/
def rNeNil (K : PySem.W.Frag) : R2 := fun x y H Q => ∃ (a b : Addr) (xs : List V), x = .ref a ∧ y = .ref b ∧ SqL K H a xs ∧ SqL K H b [] ∧ Q (.bl (!decide (xs.length = 0))) H
theorem op_neNil (hu : X.A.units + 64 < cLine) : OpR X (compareOp .NotEq) (rNeNil X.K) := by
  intro pins s σ H x y v u Q I rx ry h
  obtain ⟨a, b, xs, rfl, rfl, ha, hb, q⟩ := h
  cases rx
  cases ry
  obtain ⟨its, r1, l1, _⟩ := I.list ha
  obtain ⟨its2, r2, l2, _⟩ := I.list hb
  cases r2
  have e1 := r1.length
  have fin : (fun r s' => EP X pins σ Q r s') (Value.bool (!decide (xs.length = 0))) s := ⟨.bl _, H, I, rfl, q⟩
  by_cases hsz : xs.length = 0
  · rw [decide_eq_true hsz] at fin
    have z0 : its.length = 0 := by rw [← e1]; exact hsz
    have z : its.toArray.size = ([] : List Value).toArray.size := by simpa using z0
    have := SeqAt.RcNeAt.lists (A := X.A) (s := s) (e := fun _ => true) l1.isList l2.isList z (by omega) (fun j h1 h2 => absurd h2 (by simp)) X.prog X.w X.xe (EP X pins σ Q)
    refine this ?_
    have e0 : its.toArray.size = 0 := by simpa using z0
    rw [e0]
    exact fin
  · rw [decide_eq_false hsz] at fin
    exact SeqAt.RcNeAt.lists_lengths (A := X.A) (s := s) l1.isList l2.isList (by have z0 : its.length ≠ 0 := (by rw [← e1]; exact hsz); simpa using z0) (by omega) X.prog X.w X.xe (EP X pins σ Q) fin
end
end Vw
namespace Vw
open PySem PySem.Spec PyProof.Rows L2
/-! ### comprehensions whose elements are anything new -/
/-- all but lists and what is locked stays -/
def NL (H H' : Hp) : Prop := ∀ b o, H b = some o → (∀ xs, o ≠ .lst xs) → (∀ od k, o ≠ .frz od (.dK k)) → H' b = some o
theorem NL.same {H H' : Hp} (s : Same H H') : NL H H' := fun b o e _ _ => s b o e
theorem NL.updL {H : Hp} {D : Addr} {acc : List V} {o : HO} (e : H D = some (.lst acc)) : NL H (upd H D o) := fun b u h n _ => by
  rw [upd_ne (fun z => by rw [z, e] at h; cases h; exact n _ rfl)]
  exact h
theorem NL.updF {H : Hp} {D : Addr} {od : Obj} {k : List (Key × V)} {o : HO} (e : H D = some (.frz od (.dK k))) : NL H (upd H D o) := fun b u h _ n => by
  rw [upd_ne (fun z => by rw [z, e] at h; cases h; exact n _ _ rfl)]
  exact h
theorem NL.sqt {K : PySem.W.Frag} {H H' : Hp} {a : Addr} {xs : List V} (n : NL H H') (h : SqT K H a xs) : SqT K H' a xs := by
  rcases h with (h | ⟨o, h⟩) | h
  · exact .inl (.inl (n _ _ h (by intro t z; cases z) (by intro t k z; cases z)))
  · exact .inl (.inr ⟨o, n _ _ h (by intro t z; cases z) (by intro t k z; cases z)⟩)
  · exact .inr h
theorem lc_roG {α : Type} {J : It} {G : Hp → Prop} {Y : Nat → Hp → V → Hp → Prop} (l : List α) (w : Walk J l.length G Y) (R : List α → List V → Hp → Prop) {g : TG} {tt : TT} {te : TE} {vs : List Nat} {σ : L2.St} {H1 : Hp} {D : Addr} {Qd : Hp → Prop}
    (hn : l.length < sizeLine) (hD : H1 D = none) (hG : ∀ H, Same H1 H → G H) (r0 : R [] [] H1) (rK : ∀ as us H H', NL H H' → R as us H → R as us H') (rL : ∀ as us H, R as us H → us.length ≤ as.length)
    (hs : ∀ i a x H H' as us, l[i]? = some a → as = l.take i → Same H1 H → R as us H → Y i H x H' → ∀ (N1 : V → Hp → Prop) (N0 : Hp → Prop), (∀ y H4, Same H H4 → R (as ++ [a]) (us ++ [y]) H4 → N1 y H4) → (∀ H3, Same H H3 → R (as ++ [a]) us H3 → N0 H3) →
      g x (wipe σ vs) H' fun σ2 H2 => wipe σ2 vs = wipe σ vs ∧ tt σ2 H2 fun b H3 => if b = true then te σ2 H3 N1 else N0 H3)
    (hd : ∀ H us, Same H1 H → H D = some (.lst us) → R l us H → Qd H) :
    ∃ W : Nat → Nat → Hp → Prop, (∃ m, W 0 m (upd H1 D (.lst []))) ∧ ∀ i m H, W i m H →
      (J.stop i H ∧ Qd H) ∨ (J.go i H ∧ ∃ Nx : Hp → Prop, (∀ H', Nx H' → ∃ m', m' < m ∧ W (i + 1) m' H') ∧ ∀ x H', J.yld i H x H' → g x (wipe σ vs) H' fun σ2 H2 => wipe σ2 vs = wipe σ vs ∧ tt σ2 H2 fun b H3 =>
        if b = true then te σ2 H3 fun y H4 => ∃ acc, H4 D = some (.lst acc) ∧ acc.length < sizeLine ∧ Nx (upd H4 D (.lst (acc ++ [y]))) else Nx H3) := by
  have new : ∀ {H : Hp} {o : HO}, Same H1 H → Same H1 (upd H D o) := fun {H o} s b u e => by
    rw [upd_ne (ne_of_none e hD)]
    exact s b u e
  refine lc_it w (fun i H => Same H1 H ∧ ∃ us : List V, H D = some (.lst us) ∧ R (l.take i) us H) ⟨new (Same.refl _), [], ?_, ?_⟩ (fun i H _ p => hG H p.1) (fun i x H H' hi p y => ?_) (fun H p => ?_)
  · rw [upd_same]
  · rw [List.take_zero]
    exact rK _ _ _ _ (NL.same (Same.new hD)) r0
  · obtain ⟨a, ha⟩ : ∃ a, l[i]? = some a := ⟨l[i], by simp [hi]⟩
    obtain ⟨s1, us, eD, tq⟩ := p
    have tk : l.take (i + 1) = l.take i ++ [a] := by rw [List.take_add_one, ha]; rfl
    refine hs i a x H H' _ us ha rfl s1 tq y _ _ (fun q H4 s4 r4 => ⟨_, s4 _ _ eD, ?_, new (s1.trans s4), us ++ [q], ?_, ?_⟩) (fun H3 s3 r3 => ⟨s1.trans s3, us, s3 _ _ eD, ?_⟩)
    · have h1 := rL _ _ _ tq
      have h2 : (l.take i).length ≤ l.length := by rw [List.length_take]; omega
      omega
    · rw [upd_same]
    · rw [tk]
      exact rK _ _ _ _ (NL.updL (s4 _ _ eD)) r4
    · rw [tk]
      exact r3
  · obtain ⟨s1, us, eD, tq⟩ := p
    rw [List.take_length] at tq
    exact hd H us s1 eD tq
section
variable {K : PySem.W.Frag} {te0 : TE} {g : TG} {tt : TT} {te : TE} {vs : List Nat} {σ : L2.St} {H : Hp} {Q : VK}
def TurnG {α : Type} (R : List α → List V → Hp → Prop) (as : List α) (us : List V) (g : TG) (tt : TT) (te : TE) (vs : List Nat) (σ : L2.St) (H : Hp) (a : α) (x : V) : Prop :=
  ∀ (N1 : V → Hp → Prop) (N0 : Hp → Prop), (∀ y H4, Same H H4 → R (as ++ [a]) (us ++ [y]) H4 → N1 y H4) → (∀ H3, Same H H3 → R (as ++ [a]) us H3 → N0 H3) →
    g x (wipe σ vs) H fun σ2 H2 => wipe σ2 vs = wipe σ vs ∧ tt σ2 H2 fun b H3 => if b = true then te σ2 H3 N1 else N0 H3
/-- over a dict's keys, under its lock -/
theorem lcKG {α : Type} {l : List α} {d : Addr} (kv : α → Key × V) (R : List α → List V → Hp → Prop) (hk : H d = some (.dK (l.map kv))) (src : ∀ (H' : Hp) (R : VK), (∀ b o, b ≠ d → H b = some o → H' b = some o) → R (.ref d) H' → te0 σ H' R) (hn : l.length < sizeLine)
    (r0 : ∀ H', (∀ b o, b ≠ d → H b = some o → H' b = some o) → R [] [] H') (rK : ∀ as us H H', NL H H' → R as us H → R as us H') (rL : ∀ as us H, R as us H → us.length ≤ as.length)
    (hs : ∀ a as us H' od, a ∈ l → (∃ i, as = l.take i ∧ l[i]? = some a) → (∀ b o, b ≠ d → H b = some o → H' b = some o) → H' d = some (.frz od (.dK (l.map kv))) → R as us H' → TurnG R as us g tt te vs σ H' a (kV (kv a).1))
    (hd : ∀ D H' us, H D = none → Same H H' → H' D = some (.lst us) → R l us H' → Q (.ref D) H') : tLockE (tLc (iKeys te0) g tt te vs) σ H Q := by
  refine ⟨d, _, hk, trivial, fun od => ?_⟩
  have un : ∀ H', Same (upd H d (.frz od (.dK (l.map kv)))) H' → ∀ b o, b ≠ d → H b = some o → H' b = some o := fun H' s b o hb e => s b o (by rw [upd_ne hb]; exact e)
  refine src _ _ (un _ (Same.refl _)) ⟨d, od, rfl, .inl ⟨_, upd_same, fun D hD => ?_⟩⟩
  have nD : D ≠ d := fun z => by
    rw [z, upd_same] at hD
    cases hD
  have w : Walk (Itk d od (l.map kv)) l.length (fun H => H d = some (.frz od (.dK (l.map kv)))) (fun i H x H' => H' = H ∧ ∃ k v, (l.map kv)[i]? = some (k, v) ∧ x = kV k) := by
    have w := walk_keys (d := d) (o := od) (kvs := l.map kv)
    rw [List.length_map] at w
    exact w
  refine lc_roG l w R hn hD (fun H' s => s _ _ upd_same) (r0 _ (un _ (Same.refl _))) rK rL (fun i a x H2 H3 as us ha has s2 r2 y => ?_) (fun H' us s2 e t => ⟨s2 _ _ upd_same, hd D _ us (by rw [upd_ne nD] at hD; exact hD) (Same.lock hk s2) (by rw [upd_ne nD]; exact e) (rK _ _ _ _ (NL.updF (s2 _ _ upd_same)) t)⟩)
  obtain ⟨rfl, k, v, hx, rfl⟩ := y
  have e : (k, v) = kv a := by
    rw [List.getElem?_map, ha] at hx
    exact (Option.some.inj hx).symm
  have e1 : k = (kv a).1 := congrArg Prod.fst e
  rw [e1]
  exact hs a as us _ od (List.mem_of_getElem? ha) ⟨i, has, ha⟩ (un _ s2) (s2 _ _ upd_same) r2
/-- over a list that is made, or stands -/
theorem lcLG {α : Type} {l : List α} (it : α → V) (R : List α → List V → Hp → Prop) (src : ∀ R : VK, (∀ p H1, Same H H1 → SqL K H1 p (l.map it) → R (.ref p) H1) → te0 σ H R) (hn : l.length < sizeLine)
    (r0 : ∀ H', Same H H' → R [] [] H') (rK : ∀ as us H H', NL H H' → R as us H → R as us H') (rL : ∀ as us H, R as us H → us.length ≤ as.length)
    (hs : ∀ a as us H', a ∈ l → (∃ i, as = l.take i ∧ l[i]? = some a) → Same H H' → R as us H' → TurnG R as us g tt te vs σ H' a (it a))
    (hd : ∀ D H' us, H D = none → Same H H' → H' D = some (.lst us) → R l us H' → Q (.ref D) H') : tLc (iList K te0) g tt te vs σ H Q := by
  refine src _ fun p H1 s1 hp => ⟨p, rfl, ⟨_, hp⟩, fun D hD => ?_⟩
  have w : Walk (Itl K p) l.length (fun H => SqL K H p (l.map it)) (YAt (l.map it)) := by
    have w := walk_list (K := K) (a := p) (xs := l.map it)
    rw [List.length_map] at w
    exact w
  refine lc_roG l w R hn hD (fun H' s => s.seq hp) (r0 _ s1) rK rL (fun i a x H2 H3 as us ha has s2 r2 y => ?_) (fun H' us s2 e t => hd D H' us (s1.free hD) (s1.trans s2) e t)
  obtain ⟨rfl, hx⟩ := y
  have e : x = it a := by
    rw [List.getElem?_map, ha] at hx
    exact (Option.some.inj hx).symm
  subst e
  exact hs a as us _ (List.mem_of_getElem? ha) ⟨i, has, ha⟩ (s1.trans s2) r2
end
end Vw
namespace Vw
open PySem PySem.Spec PyProof.Rows L2
local macro_rules | `(tactic| walk_at "rd") => `(tactic| simp only [tSeq, tNext, tIfS, tAsg, tRet, tRetN, tDrop, tVar, tC, tOp, tUn, tTest, tB, tAnd, tOr, tNot, tAndV, tOrV, tNotV, tIf, tChain, tCB, tCons, tNil, tCall, tMeth, tMake, tFld, sFld, tTup, tLst, tTupS, tLstS, tDNewKS, tDNewTS, tTold, tCmp, t2I, tIsN, tNotN, tPar, gName, gNil, gCons, gTup, gSub, rI0, rU, rEq, rNe, tDGet, tDIn, tDNotIn, sDPut, tDNewK, tDGet1, tDGet2, tDPop1, tDPop2, tBM, tBM0, tM0, tM1, tSl, tPart, tNoPart, tBreak, tCont, tThru, L2.start, List.map_cons, List.map_nil, List.length_cons, List.length_nil, List.cons_append, List.nil_append, List.append_nil, List.replicate_succ, List.replicate_zero, Nat.reduceAdd, Nat.reduceSub, Nat.zero_add, List.getElem?_cons_zero, List.getElem?_cons_succ, List.set_cons_zero, List.set_cons_succ, wipe, cxOf_K, tYes, List.cons.injEq, and_self, Option.some.injEq, V.int.injEq, V.bl.injEq, V.ref.injEq, V.str.injEq, exists_eq_left', exists_eq_left, exists_and_left, and_assoc, true_and, and_true, if_true, if_false, ite_true, ite_false, Bool.not_true, Bool.not_false, Bool.false_eq_true, reduceIte])
theorem valV_votes (vs : List (Str × Int)) (z : Str) : valV (votesK vs) (Sum.inr z) = (vs.find? fun p => decide (p.1 = z)).map fun p => V.int p.2 := by
  induction vs with
  | nil => rfl
  | cons q r ih =>
    rw [List.find?_cons]
    by_cases h : q.1 = z
    · show valV (voteK q :: votesK r) _ = _
      rw [valV_pos (show (voteK q).1 = Sum.inr z from congrArg Sum.inr h)]
      simp [h, voteK]
    · show valV (voteK q :: votesK r) _ = _
      rw [valV_neg (show ¬ (voteK q).1 = Sum.inr z from fun e => h (Sum.inr.inj e)), ih]
      simp [h]
theorem valV_vote (vs : List (Str × Int)) (z : Str) : (valV (votesK vs) (Sum.inr z)).getD (.int 0) = .int (voteOf vs z) := by
  rw [valV_votes]
  unfold voteOf
  cases vs.find? fun p => decide (p.1 = z) <;> rfl
theorem textIn_find {L : Lay} {n : Int} {e : Ent} (h : findE L.ents n = some e) : textIn L.rows n = e.row.told := by
  unfold textIn
  rw [L.find, h]
  rfl
theorem textIn_no {L : Lay} {n : Int} (h : findE L.ents n = none) : textIn L.rows n = none := by
  unfold textIn
  rw [L.find, h]
  rfl
theorem rowAt_find {L : Lay} {n : Int} {e : Ent} (h : findE L.ents n = some e) : rowAt L.rows n = e.row := by
  unfold rowAt
  rw [L.find, h]
  rfl
section
variable {P : Program} {w : World} {K : PySem.W.Frag} {mg : Str → Option Value} {base : Heap}
def spNeedKin (K : PySem.W.Frag) : Sp := fun vs H Q E => ∃ (B O T' : Lay), vs = [.ref B.p, .ref O.p, .ref T'.p] ∧ WoodAt K H B ∧ WoodAt K H O ∧ WoodAt K H T' ∧ Good O.wd ∧ Good T'.wd ∧ NamesW B.wd ∧ NamesW O.wd ∧ NamesW T'.wd ∧
  (comesB B.wd O.wd = true → comesB B.wd T'.wd = true → ∀ H', Same H H' → Q .non H') ∧ (comesB B.wd O.wd = false ∨ comesB B.wd T'.wd = false → ∀ H', Same H H' → Bad K E .kin H')
abbrev N_need_kin : List Str := ["base", "one", "other"]
theorem sc_need_kin : FnScope N_need_kin ["base", "one", "other"] (defScope s_need_kin) := ⟨rfl, rfl, rfl, by decide +kernel, rfl, by decide +kernel, by decide +kernel⟩
theorem be_need_kin : BindEq "need_kin" "need_kin" s_need_kin ["base", "one", "other"] := fun _ _ _ _ _ _ us hl => match us, hl with | [_, _, _], _ => rfl
theorem D_need_kin (T : Txt K mg base) : Def P w K mg base 3 (He.ga K "need_kin") ["base", "one", "other"] (spNeedKin K) := by
  refine mk_def T.f_need_kin sc_need_kin be_need_kin (fun vs H Q E h => ?_) (fun cdv A outer s H vs Q E hr h => ?_)
  · obtain ⟨B, O, T', rfl, _⟩ := h
    rfl
  · obtain ⟨B, O, T', rfl, WB, WO, WT, GO, GT, nb, no, nt, k1, k0⟩ := h
    refine ⟨_, (pss_one (ps_if (PW.pt (pw_or (pt_not (pt_val (pe_cd (D_comes_of T) (by exact hr.mono (by first | decide | omega)) T.g_comes_of passE (pa_cons (pv 0) (pa_cons (pv 1) pa_nil))))) (pw_or1 (pt_not (pt_val (pe_cd (D_comes_of T) (by exact hr.mono (by first | decide | omega)) T.g_comes_of passE (pa_cons (pv 0) (pa_cons (pv 2) pa_nil)))))))) (pss_one (ps_rs T.x_NotKin)) pss_nil)), ?_⟩
    walk_at "rd"
    refine ⟨B, O, rfl, WB, WO, GO, nb, no, fun H1 s1 => ⟨_, rfl, ?_⟩⟩
    cases c1 : comesB B.wd O.wd with
    | false => exact iteT (k0 (.inl c1) H1 s1)
    | true =>
      refine iteF ⟨B, T', rfl, WB.same s1, WT.same s1, GT, nb, nt, fun H2 s2 => ⟨_, rfl, ?_⟩⟩
      cases c2 : comesB B.wd T'.wd with
      | false => exact iteT (k0 (.inr c2) H2 (s1.trans s2))
      | true => exact iteF (k1 c1 c2 H2 (s1.trans s2))
def spTextOf (K : PySem.W.Frag) : Sp := fun vs H Q _ => ∃ (L : Lay) (n : Int), vs = [.ref L.p, .int n] ∧ WoodAt K H L ∧ Q (optV (textIn L.rows n)) H
abbrev N_text_of : List Str := ["wood", "number"]
theorem sc_text_of : FnScope N_text_of ["wood", "number"] (defScope s_text_of) := ⟨rfl, rfl, rfl, by decide +kernel, rfl, by decide +kernel, by decide +kernel⟩
theorem be_text_of : BindEq "text_of" "text_of" s_text_of ["wood", "number"] := fun _ _ _ _ _ _ us hl => match us, hl with | [_, _], _ => rfl
theorem D_text_of (T : Txt K mg base) : Def P w K mg base 1 (He.ga K "text_of") ["wood", "number"] (spTextOf K) := by
  refine mk_def T.f_text_of sc_text_of be_text_of (fun vs H Q E h => ?_) (fun cdv A outer s H vs Q E hr h => ?_)
  · obtain ⟨L, n, rfl, _⟩ := h
    rfl
  · obtain ⟨L, n, rfl, W, k⟩ := h
    refine ⟨_, (pss_one (ps_ret (pe_ifExp (PW.pt (pw_and (pt_cmp (pc_di (pv 1) (pe_fld (pv 0) (by rfl)) (by exact hu_of hr))) (pw_and1 (pt_not (pt_val (pe_fld (pe_dg (pe_fld (pv 0) (by rfl)) (pv 1) (by exact hu_of hr)) (by rfl))))))) (pe_fld (pe_dg (pe_fld (pv 0) (by rfl)) (pv 1) (by exact hu_of hr)) (by rfl)) pe_non))), ?_⟩
    walk_at "rd"
    refine W.fsay T ⟨_, rfl, _, .inl ⟨_, Sum.inl n, .inl W.dic, rfl, rfl⟩, ?_⟩
    rw [valE]
    cases q : findE L.ents n with
    | none =>
      rw [textIn_no q] at k
      exact iteF k
    | some e =>
      rw [textIn_find q] at k
      have se := W.say e (findE_mem q).1
      refine iteT (W.fsay T (W.at q ⟨_, rfl, se.fstruck T ⟨_, rfl, ?_⟩⟩))
      cases c : e.row.struck with
      | true =>
        rw [show e.row.told = none by simp [Row.told, c]] at k
        exact iteF k
      | false =>
        rw [show e.row.told = some e.row.text by simp [Row.told, c]] at k
        exact iteT (W.fsay T (W.at q ⟨_, rfl, se.ftext T k⟩))
def spVotesIn (K : PySem.W.Frag) : Sp := fun vs H Q _ => ∃ (L : Lay) (n : Int) (e : Ent), vs = [.ref L.p, .int n] ∧ WoodAt K H L ∧ findE L.ents n = some e ∧ Q (.ref e.v) H
abbrev N_votes_in_merges : List Str := ["wood", "number"]
theorem sc_votes_in_merges : FnScope N_votes_in_merges ["wood", "number"] (defScope s_votes_in_merges) := ⟨rfl, rfl, rfl, by decide +kernel, rfl, by decide +kernel, by decide +kernel⟩
theorem be_votes_in_merges : BindEq "votes_in" "votes_in" s_votes_in_merges ["wood", "number"] := fun _ _ _ _ _ _ us hl => match us, hl with | [_, _], _ => rfl
theorem D_votes_in_merges (T : Txt K mg base) : Def P w K mg base 1 (He.ga K "votes_in_merges") ["wood", "number"] (spVotesIn K) := by
  refine mk_def T.f_votes_in_merges sc_votes_in_merges be_votes_in_merges (fun vs H Q E h => ?_) (fun cdv A outer s H vs Q E hr h => ?_)
  · obtain ⟨L, n, e, rfl, _⟩ := h
    rfl
  · obtain ⟨L, n, e, rfl, W, q, k⟩ := h
    refine ⟨_, (pss_one (ps_ret (pe_ifExp (pt_cmp (pc_di (pv 1) (pe_fld (pv 0) (by rfl)) (by exact hu_of hr))) (pe_fld (pe_dg (pe_fld (pv 0) (by rfl)) (pv 1) (by exact hu_of hr)) (by rfl)) pe_dnewKS))), ?_⟩
    walk_at "rd"
    refine W.fsay T ⟨_, rfl, _, .inl ⟨_, Sum.inl n, .inl W.dic, rfl, rfl⟩, ?_⟩
    rw [valE, q]
    have se := W.say e (findE_mem q).1
    exact iteT (W.fsay T (W.at q ⟨_, rfl, se.fvotes T k⟩))
def spMoved (K : PySem.W.Frag) : Sp := fun vs H Q _ => ∃ (B O : Lay) (n : Int), vs = [.ref B.p, .ref O.p, .int n] ∧ WoodAt K H B ∧ WoodAt K H O ∧ Q (.int (movedN B.wd O.wd n)) H
abbrev N_moved : List Str := ["base", "one", "number"]
theorem sc_moved : FnScope N_moved ["base", "one", "number"] (defScope s_moved) := ⟨rfl, rfl, rfl, by decide +kernel, rfl, by decide +kernel, by decide +kernel⟩
theorem be_moved : BindEq "moved" "moved" s_moved ["base", "one", "number"] := fun _ _ _ _ _ _ us hl => match us, hl with | [_, _, _], _ => rfl
theorem D_moved (T : Txt K mg base) : Def P w K mg base 1 (He.ga K "moved") ["base", "one", "number"] (spMoved K) := by
  refine mk_def T.f_moved sc_moved be_moved (fun vs H Q E h => ?_) (fun cdv A outer s H vs Q E hr h => ?_)
  · obtain ⟨B, O, n, rfl, _⟩ := h
    rfl
  · obtain ⟨B, O, n, rfl, WB, WO, k⟩ := h
    refine ⟨_, (pss_one (ps_ret (pe_ifExp (pt_cmpR op_le (pv 2) (pe_fld (pv 0) (by rfl)) (nomark _)) (pv 2) (pe_op op_add (pe_op op_sub (pv 2) (pe_fld (pv 0) (by rfl))) (pe_fld (pv 1) (by rfl)))))), ?_⟩
    walk_at "rd"
    unfold movedN at k
    refine WB.fcame T ⟨_, rfl, ?_⟩
    by_cases c : n ≤ B.came
    · rw [decide_eq_true c]
      rw [if_pos (show n ≤ B.wd.came from c)] at k
      exact iteT k
    · rw [decide_eq_false c]
      rw [if_neg (show ¬ n ≤ B.wd.came from c)] at k
      exact iteF (WB.fcame T ⟨_, rfl, WO.fcame T ⟨_, rfl, k⟩⟩)
end
end Vw
namespace Vw
open PySem PySem.Spec PyProof.Rows L2
local macro_rules | `(tactic| walk_at "rd") => `(tactic| simp only [tSeq, tNext, tIfS, tAsg, tRet, tRetN, tDrop, tVar, tC, tOp, tUn, tTest, tB, tAnd, tOr, tNot, tAndV, tOrV, tNotV, tIf, tChain, tCB, tCons, tNil, tCall, tMeth, tMake, tFld, sFld, tTup, tLst, tTupS, tLstS, tDNewKS, tDNewTS, tTold, tCmp, t2I, tIsN, tNotN, tPar, gName, gNil, gCons, gTup, gSub, rI0, rU, rEq, rNe, tDGet, tDIn, tDNotIn, sDPut, tDNewK, tDGet1, tDGet2, tDPop1, tDPop2, tBM, tBM0, tM0, tM1, tSl, tPart, tNoPart, tBreak, tCont, tThru, L2.start, List.map_cons, List.map_nil, List.length_cons, List.length_nil, List.cons_append, List.nil_append, List.append_nil, List.replicate_succ, List.replicate_zero, Nat.reduceAdd, Nat.reduceSub, Nat.zero_add, List.getElem?_cons_zero, List.getElem?_cons_succ, List.set_cons_zero, List.set_cons_succ, wipe, cxOf_K, tYes, List.cons.injEq, and_self, Option.some.injEq, V.int.injEq, V.bl.injEq, V.ref.injEq, V.str.injEq, exists_eq_left', exists_eq_left, exists_and_left, and_assoc, true_and, and_true, if_true, if_false, ite_true, ite_false, Bool.not_true, Bool.not_false, Bool.false_eq_true, reduceIte])
theorem keysV (vs : List (Str × Int)) : ((votesK vs).map fun kv => kV kv.1) = (vs.map (·.1)).map V.str := by
  unfold votesK
  rw [List.map_map, List.map_map]
  rfl
theorem SqL.updD {K : PySem.W.Frag} {H : Hp} {q D : Addr} {xs : List V} {kvs : List (Key × V)} {o : HO} (hq : SqL K H q xs) (eD : H D = some (.dK kvs)) : SqL K (upd H D o) q xs := by
  have kD : ∀ b u, b ≠ D → H b = some u → upd H D o b = some u := fun b u h e => by rw [upd_ne h]; exact e
  rcases hq with (h | ⟨o, h⟩) | h
  · exact .inl (.inl (kD _ _ (fun z => by rw [z, eD] at h; cases h) h))
  · exact .inl (.inr ⟨o, kD _ _ (fun z => by rw [z, eD] at h; cases h) h⟩)
  · exact .inr h
section
variable {P : Program} {w : World} {K : PySem.W.Frag} {mg : Str → Option Value} {base : Heap}
def spMergedVotes (K : PySem.W.Frag) : Sp := fun vs H Q _ => ∃ (a b c : Addr) (x y z : List (Str × Int)), vs = [.ref a, .ref b, .ref c] ∧ H a = some (.dK (votesK x)) ∧ H b = some (.dK (votesK y)) ∧ H c = some (.dK (votesK z)) ∧
  x.length + y.length + z.length ≤ 3000 ∧ New (.dK (votesK (mergedV x y z))) H Q
abbrev N_merged_votes : List Str := ["base", "one", "other", "found", "name", "way"]
theorem sc_merged_votes : FnScope N_merged_votes ["base", "one", "other"] (defScope s_merged_votes) := ⟨rfl, rfl, rfl, by decide +kernel, rfl, by decide +kernel, by decide +kernel⟩
theorem be_merged_votes : BindEq "merged_votes" "merged_votes" s_merged_votes ["base", "one", "other"] := fun _ _ _ _ _ _ us hl => match us, hl with | [_, _, _], _ => rfl
theorem D_merged_votes (T : Txt K mg base) : Def P w K mg base 1 (He.ga K "merged_votes") ["base", "one", "other"] (spMergedVotes K) := by
  refine mk_def T.f_merged_votes sc_merged_votes be_merged_votes (fun vs H Q E h => ?_) (fun cdv A outer s H vs Q E hr h => ?_)
  · obtain ⟨a, b, c, x, y, z, rfl, _⟩ := h
    rfl
  · obtain ⟨a, b, c, x, y, z, rfl, ha, hb, hc, ln, k⟩ := h
    refine ⟨_, (pss_cons (ps_set (i := 3) sc_merged_votes.nd rfl (Or.inl rfl) pe_dnewKS)
      (pss_cons (ps_for ownE rfl (pi_list (pe_callB (cr_sortedX rfl) (by rfl) T.b_sorted (by decide +kernel) (pa_cons (pe_callTy (cr_setX rfl) (by rfl) T.b_set (by decide +kernel) (pa_cons (pe_op op_catN (pe_op op_catN (pe_callTy (call_listDN rfl) (by rfl) T.b_list (by decide +kernel) (pa_cons (pv 0) pa_nil)) (pe_callTy (call_listDN rfl) (by rfl) T.b_list (by decide +kernel) (pa_cons (pv 1) pa_nil))) (pe_callTy (call_listDN rfl) (by rfl) T.b_list (by decide +kernel) (pa_cons (pv 2) pa_nil))) pa_nil)) pa_nil))) (pg_name (i := 4) sc_merged_votes.nd rfl (Or.inl rfl))
      (pss_cons (ps_set (i := 5) sc_merged_votes.nd rfl (Or.inl rfl) (pe_ifExp (pt_cmpR op_ne (pe_dg2 (pv 1) (pv 4) pe_int (by exact hu_of hr)) (pe_dg2 (pv 0) (pv 4) pe_int (by exact hu_of hr)) (nomark _)) (pe_dg2 (pv 1) (pv 4) pe_int (by exact hu_of hr)) (pe_dg2 (pv 2) (pv 4) pe_int (by exact hu_of hr))))
      (pss_one (ps_if (pt_cmpR op_ne (pv 5) pe_int (nomark _)) (pss_one (ps_dp (pv 3) (pv 4) (pv 5) (by exact hu_of hr))) pss_nil))))
      (pss_one (ps_ret (pv 3))))), ?_⟩
    walk_at "rd"
    intro D H1 nD s1 eD
    have z9 : (100000 : Nat) < sizeLine := by rw [sizeLine_eq]; omega
    have lnV : (namesV x y z).length ≤ 3000 := by
      have h1 := (sortS_perm (dedupS (x.map (·.1) ++ y.map (·.1) ++ z.map (·.1)))).length_eq
      have h2 : ∀ l : List Str, (dedupS l).length ≤ l.length := by
        intro l
        induction l with
        | nil => exact Nat.le_refl _
        | cons q r ih =>
          unfold dedupS
          split
          · rw [List.length_cons]; omega
          · rw [List.length_cons, List.length_cons]; omega
      have h3 := h2 (x.map (·.1) ++ y.map (·.1) ++ z.map (·.1))
      unfold namesV namesIn
      rw [h1]
      rw [List.length_append, List.length_append, List.length_map, List.length_map, List.length_map] at h3
      omega
    refine forL2 (l := namesV x y z) V.str (fun R' h => ?_) (fun q' i σ' H' => SqL K H' q' ((namesV x y z).map V.str) ∧ Same H H' ∧ ∃ (x4 x5 : Option V), σ' = [some (.ref a), some (.ref b), some (.ref c), some (.ref D), x4, x5] ∧ H' D = some (.dK (votesK (((namesV x y z).take i).filterMap (wayP x y z)))))
      (fun q' H2 s2 h2 => ⟨h2, s1.trans s2, _, _, rfl, s2 _ _ eD⟩) (fun q' i σ' H' _ h => h.1) (fun q' i y' σ' H2 D' hi h2 nx ct rt _ => ?_) (fun q' σ' H2 h2 => ?_)
    · walk_at "rd"
      refine ⟨a, _, rfl, .inl (s1 _ _ ha), fun p1 H2 n1 s2 e1 => ⟨b, _, rfl, .inl (s2 _ _ (s1 _ _ hb)), fun p2 H3 n2 s3 e2 => ⟨p1, p2, _, _, rfl, rfl, s3 _ _ e1, e2, ?_, fun p3 H4 n3 s4 e3 => ⟨c, _, rfl, .inl (s4 _ _ (s3 _ _ (s2 _ _ (s1 _ _ hc)))), fun p4 H5 n4 s5 e4 => ⟨p3, p4, _, _, rfl, rfl, s5 _ _ e3, e4, ?_, fun p5 H6 n5 s6 e5 => ?_⟩⟩⟩⟩⟩
      · rw [keysV, keysV, List.length_map, List.length_map, List.length_map, List.length_map]; omega
      · rw [keysV, keysV, keysV, List.length_append, List.length_map, List.length_map, List.length_map, List.length_map, List.length_map, List.length_map]; omega
      · rw [keysV, keysV, keysV, ← List.map_append, ← List.map_append] at e5
        refine ⟨p5, x.map (·.1) ++ y.map (·.1) ++ z.map (·.1), rfl, SqL.of e5, ?_, fun p6 H7 n6 s7 e6 => ⟨p6, _, rfl, e6, fun ys y1 y2 y3 p7 H8 n7 s8 e7 => ?_⟩⟩
        · rw [List.length_append, List.length_append, List.length_map, List.length_map, List.length_map]; omega
        · rw [names_eq y1 y2 y3] at e7
          exact h p7 H8 (s2.trans (s3.trans (s4.trans (s5.trans (s6.trans (s7.trans s8)))))) (SqL.of e7)
    · obtain ⟨hq, s2, x4, x5, rfl, eD2⟩ := h2
      walk_at "rd"
      have isd : ∀ {p : Addr} {vs : List (Str × Int)}, H p = some (.dK (votesK vs)) → IsD H2 p := fun {p vs} h => .inl ⟨_, .inl (s2 _ _ h)⟩
      have get : ∀ {p : Addr} {vs : List (Str × Int)}, H p = some (.dK (votesK vs)) → DGet H2 p (.str y') (valV (votesK vs) (Sum.inr y')) := fun {p vs} h => .inl ⟨_, Sum.inr y', .inl (s2 _ _ h), rfl, rfl⟩
      have il : i < (namesV x y z).length := (List.getElem?_eq_some_iff.mp hi).1
      have tk : (namesV x y z).take (i + 1) = (namesV x y z).take i ++ [y'] := by rw [List.take_add_one, hi]; rfl
      have fin : ∀ wy : Int, wayOf x y z y' = wy → scal (V.int wy) (V.int 0) = true ∧ (if (!decide (V.int wy = V.int 0)) = true then ∃ H3, DPut H2 D (.str y') (.int wy) H3 ∧ D'.nx [some (.ref a), some (.ref b), some (.ref c), some (.ref D), some (.str y'), some (.int wy)] H3
          else D'.nx [some (.ref a), some (.ref b), some (.ref c), some (.ref D), some (.str y'), some (.int wy)] H2) := fun wy hw => by
        refine ⟨rfl, ?_⟩
        by_cases c0 : wy = 0
        · subst c0
          refine iteF (nx _ _ ⟨hq, s2, _, _, rfl, ?_⟩)
          rw [tk, mergedV_app, show wayP x y z y' = none from if_neg (by simp [hw])]
          rw [eD2]
          simp
        · rw [show decide (V.int wy = V.int 0) = false from decide_eq_false fun q => c0 (V.int.inj q)]
          have ey : wayP x y z y' = some (y', wy) := by unfold wayP; rw [hw, if_pos c0]
          have nw : y' ∉ (namesV x y z).take i := fun hm => by
            have nd := nodup_namesIn (x.map (·.1) ++ y.map (·.1) ++ z.map (·.1))
            have nd2 : ((namesV x y z).take (i + 1)).Nodup := nd.sublist (List.take_sublist _ _)
            rw [tk, List.nodup_append] at nd2
            exact nd2.2.2 y' hm y' (List.mem_singleton.mpr rfl) rfl
          have vn : valV (votesK (((namesV x y z).take i).filterMap (wayP x y z))) (Sum.inr y') = none := by
            rw [valV_votes, Option.map_eq_none_iff, List.find?_eq_none]
            intro p hp
            simp only [decide_eq_true_eq]
            rintro rfl
            exact nw (way_keys (List.mem_map.mpr ⟨p, hp, rfl⟩))
          have lp : (votesK (((namesV x y z).take i).filterMap (wayP x y z))).length < sizeLine := by
            unfold votesK
            rw [List.length_map]
            have h1 := way_length (b := x) (o := y) (t := z) ((namesV x y z).take i)
            have h2 : ((namesV x y z).take i).length ≤ i := List.length_take_le _ _
            omega
          refine iteT ⟨_, DPut.k (k := Sum.inr y') eD2 lp, nx _ _ ⟨SqL.updD hq eD2, s2.over nD, _, _, rfl, ?_⟩⟩
          rw [upd_same, tk, mergedV_app, ey, putK_new _ vn]
          unfold votesK
          rw [List.map_append]
          rfl
      refine ⟨isd hb, _, get hb, isd ha, _, get ha, ?_⟩
      rw [valV_vote, valV_vote]
      refine ⟨rfl, ?_⟩
      by_cases c1 : voteOf y y' = voteOf x y'
      · rw [show decide (V.int (voteOf y y') = V.int (voteOf x y')) = true from decide_eq_true (congrArg V.int c1)]
        refine iteF ⟨isd hc, _, get hc, ?_⟩
        rw [valV_vote]
        exact fin _ (if_neg (fun h => h c1))
      · rw [show decide (V.int (voteOf y y') = V.int (voteOf x y')) = false from decide_eq_false fun q => c1 (V.int.inj q)]
        refine iteT ⟨isd hb, _, get hb, ?_⟩
        rw [valV_vote]
        exact fin _ (if_pos c1)
    · obtain ⟨hq, s2, x4, x5, rfl, eD2⟩ := h2
      walk_at "rd"
      rw [List.take_of_length_le (Nat.le_refl _)] at eD2
      exact k D H2 nD s2 eD2
end
end Vw
namespace Vw
open PySem PySem.Spec PyProof.Rows L2
local macro_rules | `(tactic| walk_at "rd") => `(tactic| simp only [tSeq, tNext, tIfS, tAsg, tRet, tRetN, tDrop, tVar, tC, tOp, tUn, tTest, tB, tAnd, tOr, tNot, tAndV, tOrV, tNotV, tIf, tChain, tCB, tCons, tNil, tCall, tMeth, tMake, tFld, sFld, tTup, tLst, tTupS, tLstS, tDNewKS, tDNewTS, tTold, tCmp, t2I, tIsN, tNotN, tPar, gName, gNil, gCons, gTup, gSub, rI0, rU, rEq, rNe, tDGet, tDIn, tDNotIn, sDPut, tDNewK, tDGet1, tDGet2, tDPop1, tDPop2, tBM, tBM0, tM0, tM1, tSl, tPart, tNoPart, tBreak, tCont, tThru, L2.start, List.map_cons, List.map_nil, List.length_cons, List.length_nil, List.cons_append, List.nil_append, List.append_nil, List.replicate_succ, List.replicate_zero, Nat.reduceAdd, Nat.reduceSub, Nat.zero_add, List.getElem?_cons_zero, List.getElem?_cons_succ, List.set_cons_zero, List.set_cons_succ, wipe, cxOf_K, tYes, List.cons.injEq, and_self, Option.some.injEq, V.int.injEq, V.bl.injEq, V.ref.injEq, V.str.injEq, exists_eq_left', exists_eq_left, exists_and_left, and_assoc, true_and, and_true, if_true, if_false, ite_true, ite_false, Bool.not_true, Bool.not_false, Bool.false_eq_true, reduceIte])
theorem lcTp {K : PySem.W.Frag} {te0 : TE} {g : TG} {tt : TT} {te : TE} {vs : List Nat} {σ : L2.St} {H : Hp} {Q : VK} {α : Type} {l : List α} (it : α → V) (f : α → Option V) (src : ∀ R : VK, (∀ p H1, Same H H1 → SqT K H1 p (l.map it) → R (.ref p) H1) → te0 σ H R) (hn : l.length < sizeLine)
    (hs : ∀ a H', a ∈ l → Same H H' → Turn1 f g tt te vs σ H' a (it a))
    (hd : ∀ D H', H D = none → Same H H' → H' D = some (.lst (l.filterMap f)) → Q (.ref D) H') : tLc (iTup K te0) g tt te vs σ H Q := by
  refine src _ fun p H1 s1 hp => ⟨p, rfl, ⟨_, hp⟩, fun D hD => ?_⟩
  have w : Walk (Itt K p) l.length (fun H => SqT K H p (l.map it)) (YAt (l.map it)) := by
    have w := walk_tup (K := K) (a := p) (xs := l.map it)
    rw [List.length_map] at w
    exact w
  refine lc_ro l w f hn hD (fun H' s => Same.tup s hp) (fun i a x H2 H3 ha s2 y => ?_) (fun H' s2 e => hd D H' (s1.free hD) (s1.trans s2) e)
  obtain ⟨rfl, hx⟩ := y
  have e : x = it a := by
    rw [List.getElem?_map, ha] at hx
    exact (Option.some.inj hx).symm
  subst e
  exact hs a _ (List.mem_of_getElem? ha) (s1.trans s2)
theorem dp_opt {K : PySem.W.Frag} {H : Hp} (o : Option Str) : Dp K H (optV o) (optD o) := by
  cases o with
  | none => exact .non
  | some t => exact .str t
theorem eqv_opt (a b : Option Str) : PyData.eqv (optD a) (optD b) = decide (a = b) := by
  cases a <;> cases b <;> simp [optD, PyData.eqv]
  rfl
theorem isNon_opt (o : Option Str) : decide (optV o = V.non) = o.isNone := by
  cases o <;> simp [optV]
section
variable {P : Program} {w : World} {K : PySem.W.Frag} {mg : Str → Option Value} {base : Heap}
/-- a new saying is told -/
def NewSay (K : PySem.W.Frag) (r : Row) (H : Hp) (Q : VK) : Prop := ∀ a x v H', H a = none → H v = none → Same H H' → SayAt K H' a x v r → Q (.ref a) H'
def spCopied (K : PySem.W.Frag) : Sp := fun vs H Q _ => ∃ (a x v : Addr) (r : Row) (u t : Int), vs = [.ref a, .int u, .int t] ∧ SayAt K H a x v r ∧ NewSay K (copyR r u t) H Q
abbrev N_copied : List Str := ["saying", "under", "time", "found"]
theorem sc_copied : FnScope N_copied ["saying", "under", "time"] (defScope s_copied) := ⟨rfl, rfl, rfl, by decide +kernel, rfl, by decide +kernel, by decide +kernel⟩
theorem be_copied : BindEq "copied" "copied" s_copied ["saying", "under", "time"] := fun _ _ _ _ _ _ us hl => match us, hl with | [_, _, _], _ => rfl
theorem D_copied (T : Txt K mg base) : Def P w K mg base 3 (He.ga K "copied") ["saying", "under", "time"] (spCopied K) := by
  refine mk_def T.f_copied sc_copied be_copied (fun vs H Q E h => ?_) (fun cdv A outer s H vs Q E hr h => ?_)
  · obtain ⟨a, x, v, r, u, t, rfl, _⟩ := h
    rfl
  · obtain ⟨a, x, v, r, u, t, rfl, S, k⟩ := h
    refine ⟨_, (pss_cons (ps_set (i := 3) sc_copied.nd rfl (Or.inl rfl) (pe_mk T.c_Saying.m (D_Saying___init__ T) (by exact hr.mono (by first | decide | omega)) T.c_Saying.g passE (pa_cons (pe_fld (pv 0) (by rfl)) (pa_cons (pv 1) (pa_cons (pe_fld (pv 0) (by rfl)) (pa_cons (pv 2) pa_nil))))))
      (pss_cons (ps_fld (pv 3) (pe_callTy call_dictDN (by rfl) T.b_dict (by decide +kernel) (pa_cons (pe_fld (pv 0) (by rfl)) pa_nil)) (by rfl))
      (pss_cons (ps_fld (pv 3) (pe_fld (pv 0) (by rfl)) (by rfl))
      (pss_one (ps_ret (pv 3)))))), ?_⟩
    walk_at "rd"
    refine S.fby T (S.ftext T fun a2 dx ha hdx nax => ?_)
    refine ⟨a2, dx, r.who, r.text, u, t, rfl, upd_same, fun v2 H1 hv S1 k1 => ⟨rfl, ?_⟩⟩
    have sa : Same H (upd (upd H dx (.own a2)) a2 (.ins (cS K) dx [])) := (Same.new hdx).trans (Same.new (by rw [upd_ne nax.symm]; exact ha))
    have s1 : Same H H1 := fun b o e => k1 b o (ne_of_none e ha) (sa b o e)
    have hv0 : H v2 = none := sa.free hv
    refine (S.same s1).fvotes T ⟨v, _, rfl, .inl (S.same s1).d, fun v3 H2 n3 s2 e3 => ?_⟩
    have S2 := S1.same s2
    refine ⟨_, _, _, S2.o, T.c_Saying.c, T.n_Saying_votes, by rw [fs_len]; decide, ?_⟩
    rw [fp_votes _ _ v3 r.votes]
    have nva : v3 ≠ a2 := fun z => by rw [z, S1.o] at n3; cases n3
    have S3 : SayAt K (upd H2 a2 (.ins (cS K) dx (sayFs { who := r.who, under := u, text := r.text, time := t, votes := r.votes, struck := false } v3))) a2 dx v3 { who := r.who, under := u, text := r.text, time := t, votes := r.votes, struck := false } := ⟨upd_same, by rw [upd_ne nva]; exact e3, S.nd, S.sz⟩
    have sx : Same H (upd H2 a2 (.ins (cS K) dx (sayFs { who := r.who, under := u, text := r.text, time := t, votes := r.votes, struck := false } v3))) := (s1.trans s2).over ha
    have Sx := S.same sx
    refine Sx.fstruck T ?_
    generalize upd H2 a2 (.ins (cS K) dx (sayFs { who := r.who, under := u, text := r.text, time := t, votes := r.votes, struck := false } v3)) = H3 at S3 sx Sx ⊢
    refine ⟨_, _, _, S3.o, T.c_Saying.c, T.n_Saying_is_struck, by rw [fs_len]; decide, ?_⟩
    rw [fp_struck]
    refine k a2 dx v3 _ ha (s1.free n3) (sx.over ha) ⟨upd_same, by rw [upd_ne nva]; exact S3.d, S.nd, S.sz⟩
/-- what merges ask of rows: texts that can be compared, votes that can be told -/
def RowsMg (rs : Rows) : Prop := ∀ p ∈ rs, (p.2.struck = false → SeqAt.shaped (.str p.2.text) = true) ∧ p.2.votes.length ≤ 1000
def spMergedSaying (K : PySem.W.Frag) : Sp := fun vs H Q _ => ∃ (B O T' : Lay) (n : Int) (e : Ent), vs = [.ref B.p, .ref O.p, .ref T'.p, .int n] ∧ WoodAt K H B ∧ WoodAt K H O ∧ WoodAt K H T' ∧ findE B.ents n = some e ∧
  RowsMg B.rows ∧ RowsMg O.rows ∧ RowsMg T'.rows ∧ NewSay K (mergedRow B.rows O.rows T'.rows n e.row) H Q
abbrev N_merged_saying : List Str := ["base", "one", "other", "number", "old", "text", "is_struck", "found", "there", "wood"]
theorem sc_merged_saying : FnScope N_merged_saying ["base", "one", "other", "number"] (defScope s_merged_saying) := ⟨rfl, rfl, rfl, by decide +kernel, rfl, by decide +kernel, by decide +kernel⟩
theorem be_merged_saying : BindEq "merged_saying" "merged_saying" s_merged_saying ["base", "one", "other", "number"] := fun _ _ _ _ _ _ us hl => match us, hl with | [_, _, _, _], _ => rfl
theorem D_merged_saying (T : Txt K mg base) : Def P w K mg base 3 (He.ga K "merged_saying") ["base", "one", "other", "number"] (spMergedSaying K) := by
  refine mk_def T.f_merged_saying sc_merged_saying be_merged_saying (fun vs H Q E h => ?_) (fun cdv A outer s H vs Q E hr h => ?_)
  · obtain ⟨B, O, T', n, e, rfl, _⟩ := h
    rfl
  · obtain ⟨B, O, T', n, e, rfl, WB, WO, WT, fe, rb, ro, rt, k⟩ := h
    refine ⟨_, (pss_cons (ps_set (i := 4) sc_merged_saying.nd rfl (Or.inl rfl) (pe_dg (pe_fld (pv 0) (by rfl)) (pv 3) (by exact hu_of hr)))
      (pss_cons (ps_set (i := 5) sc_merged_saying.nd rfl (Or.inl rfl) (pe_cd (D_text_of T) (by exact hr.mono (by first | decide | omega)) T.g_text_of passE (pa_cons (pv 1) (pa_cons (pv 3) pa_nil))))
      (C8.pss_cut (ps_if (pt_eqd (pv 5) (pe_cd (D_text_of T) (by exact hr.mono (by first | decide | omega)) T.g_text_of passE (pa_cons (pv 0) (pa_cons (pv 3) pa_nil))) (by exact hr.units)) (pss_one (ps_set (i := 5) sc_merged_saying.nd rfl (Or.inl rfl) (pe_cd (D_text_of T) (by exact hr.mono (by first | decide | omega)) T.g_text_of passE (pa_cons (pv 2) (pa_cons (pv 3) pa_nil))))) pss_nil)
      (C8.pss_cut (ps_set (i := 6) sc_merged_saying.nd rfl (Or.inl rfl) (pe_or (pe_cmpR op_isN (pe_cd (D_text_of T) (by exact hr.mono (by first | decide | omega)) T.g_text_of passE (pa_cons (pv 1) (pa_cons (pv 3) pa_nil))) pe_non (nomark _)) (pe_one (pe_cmpR op_isN (pe_cd (D_text_of T) (by exact hr.mono (by first | decide | omega)) T.g_text_of passE (pa_cons (pv 2) (pa_cons (pv 3) pa_nil))) pe_non (nomark _)))))
      (C8.pss_cut (ps_set (i := 7) sc_merged_saying.nd rfl (Or.inl rfl) (pe_mk T.c_Saying.m (D_Saying___init__ T) (by exact hr.mono (by first | decide | omega)) T.c_Saying.g passE (pa_cons (pe_fld (pv 4) (by rfl)) (pa_cons (pe_fld (pv 4) (by rfl)) (pa_cons (pe_ifExp (pt_val (pv 6)) pe_str (pv 5)) (pa_cons (pe_fld (pv 4) (by rfl)) pa_nil))))))
      (pss_cons (ps_fld (pv 7) (pv 6) (by rfl))
      (C8.pss_cut (ps_setLc (i := 8) (own := [("wood", 9)]) (g := gName 9) rfl sc_merged_saying.nd rfl rfl (sw_true rfl rfl rfl (by decide +kernel)) (pi_tup (pe_tupS (pa_cons (pv 1) (pa_cons (pv 2) pa_nil)))) (blkOk_by (N := N_merged_saying) (sc := defScope s_merged_saying) (by decide +kernel)) (fun _ _ _ _ _ => by exact (pg_name (i := 9) sc_merged_saying.nd rfl (Or.inl rfl))) (fun _ _ _ _ _ => by exact (pts_one (pt_cmp (pc_di (pv 3) (pe_fldK K (pv 9)) (by exact hu_of hr))))) (fun _ _ _ _ _ => by exact (pe_cd (D_votes_in_merges T) (by exact hr.mono (by first | decide | omega)) T.g_votes_in_merges passF (pa_cons (pv 9) (pa_cons (pv 3) pa_nil)))))
      (C8.pss_cut (ps_if (pt_cmpR op_eq (pe_callB call_len_seq (by rfl) T.b_len (by decide +kernel) (pa_cons (pv 8) pa_nil)) pe_int (nomark _)) (pss_one (ps_fld (pv 7) (pe_cd (D_merged_votes T) (by exact hr.mono (by first | decide | omega)) T.g_merged_votes passE (pa_cons (pe_fld (pv 4) (by rfl)) (pa_cons (pe_ix ix_list (pv 8) pe_int (fun _ _ => rfl)) (pa_cons (pe_ix ix_list (pv 8) pe_int (fun _ _ => rfl)) pa_nil)))) (by rfl))) (pss_one (ps_fld (pv 7) (pe_callTy call_dictDN (by rfl) T.b_dict (by decide +kernel) (pa_cons (pe_ifExp (pt_cmpR (op_neNil (by exact hr.units)) (pv 8) (pe_lstS pa_nil) (nomark _)) (pe_ix ix_list (pv 8) pe_int (fun _ _ => rfl)) (pe_fld (pv 4) (by rfl))) pa_nil)) (by rfl))))
      (pss_one (ps_ret (pv 7))))))))))), ?_⟩
    walk_at "rd"
    have se := WB.say e (findE_mem fe).1
    have shp : ∀ {L : Lay}, RowsMg L.rows → SeqAt.shaped (optD (textIn L.rows n)) = true := fun {L} hm => by
      cases q : findE L.ents n with
      | none => rw [textIn_no q]; rfl
      | some f =>
        rw [textIn_find q]
        have := (hm (f.n, f.row) (List.mem_map.mpr ⟨f, (findE_mem q).1, rfl⟩)).1
        unfold Row.told
        cases c : f.row.struck with
        | true => rfl
        | false => exact this c
    refine WB.fsay T (WB.at fe ⟨O, n, rfl, WO, ?_⟩)
    refine ⟨fun σ' H' => H' = H ∧ σ' = [some (.ref B.p), some (.ref O.p), some (.ref T'.p), some (.int n), some (.ref e.a), some (optV (if textIn O.rows n = textIn B.rows n then textIn T'.rows n else textIn O.rows n)), none, none, none, none], ?_, ?_⟩
    · walk_at "rd"
      refine ⟨B, n, rfl, WB, use_eqD (dp_opt _) (dp_opt _) (shp ro) (shp rb) ⟨_, rfl, ?_⟩⟩
      rw [eqv_opt]
      by_cases c : textIn O.rows n = textIn B.rows n
      · rw [decide_eq_true c, if_pos c]
        exact iteT ⟨T', n, rfl, WT, rfl, rfl⟩
      · rw [decide_eq_false c, if_neg c]
        exact iteF ⟨rfl, rfl⟩
    · rintro σ' H' ⟨rfl, rfl⟩
      refine ⟨fun σ' H1 => H1 = H' ∧ σ' = [some (.ref B.p), some (.ref O.p), some (.ref T'.p), some (.int n), some (.ref e.a), some (optV (if textIn O.rows n = textIn B.rows n then textIn T'.rows n else textIn O.rows n)), some (.bl (strIn O.rows T'.rows n)), none, none, none], ?_, ?_⟩
      · walk_at "rd"
        refine ⟨O, n, rfl, WO, ?_⟩
        dsimp only
        rw [isNon_opt]
        unfold strIn
        cases (textIn O.rows n).isNone with
        | true => exact iteT ⟨rfl, rfl⟩
        | false =>
          refine iteF ⟨T', n, rfl, WT, ?_⟩
          dsimp only
          rw [isNon_opt]
          exact ⟨rfl, rfl⟩
      · rintro σ' H1 ⟨rfl, rfl⟩
        refine ⟨fun σ' H2 => ∃ a2 dx v2, σ' = [some (.ref B.p), some (.ref O.p), some (.ref T'.p), some (.int n), some (.ref e.a), some (optV (if textIn O.rows n = textIn B.rows n then textIn T'.rows n else textIn O.rows n)), some (.bl (strIn O.rows T'.rows n)), some (.ref a2), none, none] ∧ H1 a2 = none ∧ Same H1 H2 ∧
          SayAt K H2 a2 dx v2 { mergedRow B.rows O.rows T'.rows n e.row with votes := [], struck := false } ∧ H1 v2 = none, ?_, ?_⟩
        · walk_at "rd"
          refine se.fby T (se.funder T ?_)
          have fin : ∀ {a2 dx v2 : Addr} {H2 : Hp} {txt : Str}, txt = (mergedRow B.rows O.rows T'.rows n e.row).text → H1 a2 = none → H1 dx = none → a2 ≠ dx → upd (upd H1 dx (.own a2)) a2 (.ins (cS K) dx []) v2 = none → SayAt K H2 a2 dx v2 ⟨e.row.who, e.row.under, txt, e.row.time, [], false⟩ →
              (∀ b o, b ≠ a2 → upd (upd H1 dx (.own a2)) a2 (.ins (cS K) dx []) b = some o → H2 b = some o) → H1 a2 = none ∧ Same H1 H2 ∧ ∃ dx' v', SayAt K H2 a2 dx' v' { mergedRow B.rows O.rows T'.rows n e.row with votes := [], struck := false } ∧ H1 v' = none := fun {a2 dx v2 H2 txt} et ha hdx nax hv S1 k1 => by
            have sa : Same H1 (upd (upd H1 dx (.own a2)) a2 (.ins (cS K) dx [])) := (Same.new hdx).trans (Same.new (by rw [upd_ne nax]; exact ha))
            refine ⟨ha, fun b o e => k1 b o (ne_of_none e ha) (sa b o e), dx, v2, ?_, sa.free hv⟩
            rw [et] at S1
            exact S1
          cases cs : strIn O.rows T'.rows n with
          | true =>
            refine iteT (se.ftime T fun a2 dx ha hdx nax => ?_)
            refine ⟨a2, dx, e.row.who, "", e.row.under, e.row.time, rfl, upd_same, fun v2 H2 hv S1 k1 => ⟨rfl, ?_⟩⟩
            have := fin (txt := "") (by unfold mergedRow; rw [cs]; rfl) ha hdx nax.symm hv S1 k1
            simpa only [exists_and_left, cs] using this
          | false =>
            have hs : ∃ t1 t2, textIn O.rows n = some t1 ∧ textIn T'.rows n = some t2 := by
              unfold strIn at cs
              cases h1 : textIn O.rows n with
              | none => rw [h1] at cs; cases cs
              | some t1 =>
                cases h2 : textIn T'.rows n with
                | none => rw [h1, h2] at cs; cases cs
                | some t2 => exact ⟨t1, t2, rfl, rfl⟩
            obtain ⟨t1, t2, h1, h2⟩ := hs
            have et : ∃ t, (if textIn O.rows n = textIn B.rows n then textIn T'.rows n else textIn O.rows n) = some t := by
              split
              · exact ⟨t2, h2⟩
              · exact ⟨t1, h1⟩
            obtain ⟨t, et⟩ := et
            refine iteF (se.ftime T fun a2 dx ha hdx nax => ?_)
            rw [et]
            refine ⟨a2, dx, e.row.who, t, e.row.under, e.row.time, rfl, upd_same, fun v2 H2 hv S1 k1 => ⟨rfl, ?_⟩⟩
            have := fin (txt := t) (by unfold mergedRow; rw [cs, et]; rfl) ha hdx nax.symm hv S1 k1
            simpa only [exists_and_left, cs, et] using this
        · rintro σ' H2 ⟨a2, dx, v2, rfl, ha, s2, S2, hv⟩
          walk_at "rd"
          have nva : v2 ≠ a2 := ne_of S2.d S2.o (by intro q; cases q)
          refine ⟨_, _, _, S2.o, T.c_Saying.c, T.n_Saying_is_struck, by rw [fs_len]; decide, ?_⟩
          rw [fp_struck]
          have S3 : SayAt K (upd H2 a2 (.ins (cS K) dx (sayFs { mergedRow B.rows O.rows T'.rows n e.row with votes := [] } v2))) a2 dx v2 { mergedRow B.rows O.rows T'.rows n e.row with votes := [] } := ⟨upd_same, by rw [upd_ne nva]; exact S2.d, S2.nd, S2.sz⟩
          have s3 : Same H1 (upd H2 a2 (.ins (cS K) dx (sayFs { mergedRow B.rows O.rows T'.rows n e.row with votes := [] } v2))) := s2.over ha
          generalize hH3 : upd H2 a2 (.ins (cS K) dx (sayFs { mergedRow B.rows O.rows T'.rows n e.row with votes := [] } v2)) = H3 at S3 s3
          change C8.tCut _ _ _ _ (upd H2 a2 (HO.ins (cS K) dx (sayFs { mergedRow B.rows O.rows T'.rows n e.row with votes := [] } v2)))
          rw [hH3]
          have z9 : (100 : Nat) < sizeLine := by rw [sizeLine_eq]; omega
          refine ⟨fun σ' H4 => ∃ D8, σ' = [some (.ref B.p), some (.ref O.p), some (.ref T'.p), some (.int n), some (.ref e.a), some (optV (if textIn O.rows n = textIn B.rows n then textIn T'.rows n else textIn O.rows n)), some (.bl (strIn O.rows T'.rows n)), some (.ref a2), some (.ref D8), none] ∧ Same H3 H4 ∧
            H4 D8 = some (.lst (([O, T'] : List Lay).filterMap fun L => (findE L.ents n).map fun f => V.ref f.v)), ?_, ?_⟩
          · refine lcTp (l := [O, T']) (fun L => V.ref L.p) (fun L => (findE L.ents n).map fun f => V.ref f.v) (fun R h => ?_) (by show 2 < _; omega) (fun L H4 hL s4 N1 N0 n1 n0 => ?_) (fun D8 H4 n8 s4 e8 => ?_)
            · walk_at "rd"
              exact ⟨by omega, fun p H4 n4 s4 e4 => h p H4 s4 (.inl (.inl e4))⟩
            · have WL : WoodAt K H4 L := by
                rcases List.mem_cons.mp hL with rfl | hL
                · exact (WO.same s3).same s4
                · cases List.mem_singleton.mp hL
                  exact (WT.same s3).same s4
              walk_at "rd"
              refine WL.fsay T ⟨_, rfl, _, .inl ⟨_, Sum.inl n, .inl WL.dic, rfl, rfl⟩, ?_⟩
              rw [valE]
              cases q : findE L.ents n with
              | none => exact iteF (n0 _ (Same.refl _) (by show Option.map _ (findE L.ents n) = _; rw [q]; rfl))
              | some f => exact iteT ⟨L, n, f, rfl, WL, q, n1 _ _ (Same.refl _) (by show Option.map _ (findE L.ents n) = _; rw [q]; rfl)⟩
            · walk_at "rd"
              exact ⟨s4, e8⟩
          · rintro σ' H4 ⟨D8, rfl, s4, e8⟩
            have s14 := s3.trans s4
            have S4 := S3.same s4
            have se4 := se.same s14
            refine ⟨fun σ' H5 => ∃ v3, σ' = [some (.ref B.p), some (.ref O.p), some (.ref T'.p), some (.int n), some (.ref e.a), some (optV (if textIn O.rows n = textIn B.rows n then textIn T'.rows n else textIn O.rows n)), some (.bl (strIn O.rows T'.rows n)), some (.ref a2), some (.ref D8), none] ∧ Same H1 H5 ∧
              H1 v3 = none ∧ SayAt K H5 a2 dx v3 (mergedRow B.rows O.rows T'.rows n e.row), ?_, ?_⟩
            · walk_at "rd"
              have put : ∀ {H5 : Hp} {v3 : Addr}, Same H4 H5 → H4 v3 = none → H5 v3 = some (.dK (votesK (mergedRow B.rows O.rows T'.rows n e.row).votes)) → ((mergedRow B.rows O.rows T'.rows n e.row).votes.map (·.1)).Nodup → (mergedRow B.rows O.rows T'.rows n e.row).votes.length < 100000 →
                  ∃ C x fs, H5 a2 = some (.ins C x fs) ∧ Cls K C ∧ NoAttr K C (Str.ofString "votes") ∧ fs.length < 1000 ∧ Same H1 (upd H5 a2 (.ins C x (putF (Str.ofString "votes") (.ref v3) fs))) ∧ ∃ v', H1 v' = none ∧ SayAt K (upd H5 a2 (.ins C x (putF (Str.ofString "votes") (.ref v3) fs))) a2 dx v' (mergedRow B.rows O.rows T'.rows n e.row) := fun {H5 v3} s5 n5 e5 nd sz => by
                have S5 := S4.same s5
                have nv : v3 ≠ a2 := ne_of e5 S5.o (by intro q; cases q)
                refine ⟨_, _, _, S5.o, T.c_Saying.c, T.n_Saying_votes, by rw [fs_len]; decide, (s14.trans s5).over ha, v3, s14.free n5, ⟨?_, by rw [upd_ne nv]; exact e5, nd, sz⟩⟩
                rw [upd_same, fp_votes _ _ v3 (mergedRow B.rows O.rows T'.rows n e.row).votes]
              have WO4 := WO.same s14
              have WT4 := WT.same s14
              have fO := O.find n
              have fT := T'.find n
              have evo : (mergedRow B.rows O.rows T'.rows n e.row).votes = votesIn ((findE O.ents n).map (·.row)) ((findE T'.ents n).map (·.row)) e.row.votes := by
                rw [← fO, ← fT]
                rfl
              have lenOf : ∀ {L : Lay} {f : Ent}, RowsMg L.rows → findE L.ents n = some f → f.row.votes.length ≤ 1000 := fun {L f} hm q => (hm (f.n, f.row) (List.mem_map.mpr ⟨f, (findE_mem q).1, rfl⟩)).2
              have lB := lenOf rb fe
              cases qO : findE O.ents n with
              | none =>
                cases qT : findE T'.ents n with
                | none =>
                  rw [qO, qT] at evo
                  simp only [List.filterMap_cons, List.filterMap_nil, qO, qT, Option.map_none] at e8
                  refine ⟨_, .inl (SqL.of e8), rfl, iteF ⟨Nat.zero_le _, fun p5 H5 n5 s5 e5 => ⟨D8, p5, _, rfl, rfl, SqL.of (s5 _ _ e8), SqL.of e5, _, rfl, iteF ((se4.same s5).fvotes T ⟨e.v, _, rfl, .inl (se4.same s5).d, fun v3 H6 n6 s6 e6 => put (s5.trans s6) (s5.free n6) (by rw [evo]; exact e6) (by rw [evo]; exact se.nd) (by rw [evo]; exact se.sz)⟩)⟩⟩⟩
                | some g =>
                  rw [qO, qT] at evo
                  simp only [List.filterMap_cons, List.filterMap_nil, qO, qT, Option.map_none, Option.map_some] at e8
                  have sg := WT4.say g (findE_mem qT).1
                  refine ⟨_, .inl (SqL.of e8), rfl, iteF ⟨Nat.zero_le _, fun p5 H5 n5 s5 e5 => ⟨D8, p5, _, rfl, rfl, SqL.of (s5 _ _ e8), SqL.of e5, _, rfl, iteT ⟨D8, _, 0, .ref g.v, rfl, rfl, SqL.of (s5 _ _ e8), rfl, g.v, _, rfl, .inl (sg.same s5).d, fun v3 H6 n6 s6 e6 => put (s5.trans s6) (s5.free n6) (by rw [evo]; exact e6) (by rw [evo]; exact sg.nd) (by rw [evo]; exact sg.sz)⟩⟩⟩⟩
              | some f =>
                have sf := WO4.say f (findE_mem qO).1
                cases qT : findE T'.ents n with
                | none =>
                  rw [qO, qT] at evo
                  simp only [List.filterMap_cons, List.filterMap_nil, qO, qT, Option.map_none, Option.map_some] at e8
                  refine ⟨_, .inl (SqL.of e8), rfl, iteF ⟨Nat.zero_le _, fun p5 H5 n5 s5 e5 => ⟨D8, p5, _, rfl, rfl, SqL.of (s5 _ _ e8), SqL.of e5, _, rfl, iteT ⟨D8, _, 0, .ref f.v, rfl, rfl, SqL.of (s5 _ _ e8), rfl, f.v, _, rfl, .inl (sf.same s5).d, fun v3 H6 n6 s6 e6 => put (s5.trans s6) (s5.free n6) (by rw [evo]; exact e6) (by rw [evo]; exact sf.nd) (by rw [evo]; exact sf.sz)⟩⟩⟩⟩
                | some g =>
                  rw [qO, qT] at evo
                  simp only [List.filterMap_cons, List.filterMap_nil, qO, qT, Option.map_some] at e8
                  have sg := WT4.say g (findE_mem qT).1
                  have lf := lenOf ro qO
                  have lg := lenOf rt qT
                  have ndm : ((mergedV e.row.votes f.row.votes g.row.votes).map (·.1)).Nodup := way_nodup (nodup_namesIn _)
                  have lnm : (mergedV e.row.votes f.row.votes g.row.votes).length < 100000 := by
                    have h1 := way_length (b := e.row.votes) (o := f.row.votes) (t := g.row.votes) (namesV e.row.votes f.row.votes g.row.votes)
                    have h2 := namesV_len e.row.votes f.row.votes g.row.votes
                    unfold mergedV
                    omega
                  refine ⟨_, .inl (SqL.of e8), rfl, iteT (se4.fvotes T ⟨D8, _, 0, .ref f.v, rfl, rfl, SqL.of e8, rfl, D8, _, 1, .ref g.v, rfl, rfl, SqL.of e8, rfl, e.v, f.v, g.v, _, _, _, rfl, se4.d, sf.d, sg.d, by omega, fun v3 H6 n6 s6 e6 => put s6 n6 (by rw [evo]; exact e6) (by rw [evo]; exact ndm) (by rw [evo]; exact lnm)⟩)⟩
            · rintro σ' H5 ⟨v3, rfl, s5, hv3, S5⟩
              walk_at "rd"
              exact k a2 dx v3 H5 ha hv3 s5 S5
end
end Vw
namespace Vw
open PySem PySem.Spec PyProof.Rows L2
local macro_rules | `(tactic| walk_at "rd") => `(tactic| simp only [tSeq, tNext, tIfS, tAsg, tRet, tRetN, tDrop, tVar, tC, tOp, tUn, tTest, tB, tAnd, tOr, tNot, tAndV, tOrV, tNotV, tIf, tChain, tCB, tCons, tNil, tCall, tMeth, tMake, tFld, sFld, tTup, tLst, tTupS, tLstS, tDNewKS, tDNewTS, tTold, tCmp, t2I, tIsN, tNotN, tPar, gName, gNil, gCons, gTup, gSub, rI0, rU, rEq, rNe, tDGet, tDIn, tDNotIn, sDPut, tDNewK, tDGet1, tDGet2, tDPop1, tDPop2, tBM, tBM0, tM0, tM1, tSl, tPart, tNoPart, tBreak, tCont, tThru, L2.start, List.map_cons, List.map_nil, List.length_cons, List.length_nil, List.cons_append, List.nil_append, List.append_nil, List.replicate_succ, List.replicate_zero, Nat.reduceAdd, Nat.reduceSub, Nat.zero_add, List.getElem?_cons_zero, List.getElem?_cons_succ, List.set_cons_zero, List.set_cons_succ, wipe, cxOf_K, tYes, List.cons.injEq, and_self, Option.some.injEq, V.int.injEq, V.bl.injEq, V.ref.injEq, V.str.injEq, exists_eq_left', exists_eq_left, exists_and_left, and_assoc, true_and, and_true, if_true, if_false, ite_true, ite_false, Bool.not_true, Bool.not_false, Bool.false_eq_true, reduceIte])
theorem prune1_sub (rs : Rows) (n : Int) : (prune1 rs n).Sublist rs := by
  unfold prune1
  split
  · exact List.filter_sublist
  · exact List.Sublist.refl _
theorem prune1_wf {rs : Rows} (F : Wf rs) (n : Int) : Wf (prune1 rs n) := by
  unfold prune1
  split
  · rename_i h
    simp only [Bool.and_eq_true, decide_eq_true_eq] at h
    exact F.drop h.2
  · exact F
theorem foldl_take {α β : Type} (f : β → α → β) (b : β) (l : List α) (i : Nat) (a : α) (h : l[i]? = some a) : (l.take (i + 1)).foldl f b = f ((l.take i).foldl f b) a := by
  rw [List.take_add_one, h, List.foldl_append]
  rfl
theorem prune_has {rs : Rows} : ∀ {l : List Int} {n : Int}, n ∉ l → ∀ {r : Row}, findR rs n = some r → findR (l.foldl prune1 rs) n = some r
  | l, n, hn, r, h => by
    induction l generalizing rs with
    | nil => exact h
    | cons m t ih =>
      rw [List.foldl_cons]
      refine ih (fun z => hn (List.mem_cons_of_mem _ z)) ?_
      unfold prune1
      split
      · rw [findR_drop, if_neg (fun z : n = m => hn (by rw [z]; exact List.mem_cons_self))]
        exact h
      · exact h
section
variable {P : Program} {w : World} {K : PySem.W.Frag} {mg : Str → Option Value} {base : Heap}
/-- a wood that may be locked -/
structure WoodRd (K : PySem.W.Frag) (H : Hp) (L : Lay) : Prop where
  top : H L.p = some (.ins (cW K) L.dx (woodFs L.d L.came L.clock))
  dic : Rd H L.d (.dK (L.ents.map entK))
  say : ∀ e ∈ L.ents, SayAt K H e.a e.x e.v e.row
theorem WoodRd.fsay {R : V → Prop} {H : Hp} {L : Lay} (W : WoodRd K H L) (T : Txt K mg base) (q : R (.ref L.d)) : ∃ C dx fs, H L.p = some (.ins C dx fs) ∧ Cls K C ∧ NoAttr K C "sayings" ∧ ∃ v, fs.lookup (Str.ofString "sayings") = some v ∧ R v := fld W.top T.c_Wood.c T.n_Wood_sayings (fw_sayings _ _ _) q
theorem WoodRd.at {R : V → Prop} {H : Hp} {L : Lay} (W : WoodRd K H L) {n : Int} {e : Ent} (he : findE L.ents n = some e) (q : R (.ref e.a)) : ∃ a, V.ref L.d = V.ref a ∧ ∃ x, DGet H a (.int n) (some x) ∧ R x :=
  ⟨_, rfl, _, .inl ⟨_, Sum.inl n, W.dic, rfl, by rw [valE, he]; rfl⟩, q⟩
def spDeepF (K : PySem.W.Frag) : Sp := fun vs H Q _ => ∃ (L : Lay) (n : Int), vs = [.ref L.p, .int n] ∧ WoodRd K H L ∧ Wf L.rows ∧ Here L n ∧ Q (.int (deepI L.rows n : Nat)) H
theorem D_Wood_deepF (T : Txt K mg base) : Def P w K mg base 1 (He.ma K (He.ga K "Wood") "deep") ["self", "number"] (spDeepF K) := by
  refine mk_def T.f_Wood_deep sc_Wood_deep be_Wood_deep (fun vs H Q E h => ?_) (fun cdv A outer s H vs Q E hr h => ?_)
  · obtain ⟨L, n, rfl, _⟩ := h
    rfl
  · obtain ⟨L, n, rfl, W, F, hn, k⟩ := h
    refine ⟨_, (pss_cons (ps_set (i := 2) sc_Wood_deep.nd rfl (Or.inl rfl) pe_int)
      (pss_cons (ps_while ownE (PW.pt (pw_and (pt_cmpR op_ne (pv 1) pe_int (nomark _)) (pw_and1 (pt_cmpR op_ne (pe_fld (pe_dg (pe_fld (pv 0) (by rfl)) (pv 1) (by exact hu_of hr)) (by rfl)) pe_int (nomark _))))) (pss_cons (ps_set (i := 1) sc_Wood_deep.nd rfl (Or.inl rfl) (pe_fld (pe_dg (pe_fld (pv 0) (by rfl)) (pv 1) (by exact hu_of hr)) (by rfl)))
      (pss_one (ps_set (i := 2) sc_Wood_deep.nd rfl (Or.inl rfl) (pe_op op_add (pv 2) pe_int)))))
      (pss_one (ps_ret (pv 2))))), ?_⟩
    walk_at "rd"
    refine ⟨fun m σ H' => H' = H ∧ ∃ (i : Int) (f : Nat), σ = [some (.ref L.p), some (.int i), some (.int f)] ∧ m = i.toNat ∧ Here L i ∧ f + deepI L.rows i = deepI L.rows n, ⟨_, rfl, n, 0, rfl, rfl, hn, by omega⟩, ?_⟩
    rintro m σ H' ⟨rfl, i, f, rfl, rfl, hi, ef⟩
    walk_at "rd"
    refine ⟨rfl, ?_⟩
    by_cases h0 : i = 0
    · rw [decide_eq_true h0]
      refine iteF ?_
      have e0 : deepI L.rows i = 0 := by rw [h0]; simp [deepI, above_zero]
      rw [show f = deepI L.rows n by omega]
      exact k
    · rw [decide_eq_false h0]
      obtain ⟨e, he⟩ := hi.resolve_left h0
      have S := W.say e (findE_mem he).1
      have hr : findR L.rows i = some e.row := by rw [L.find, he]; rfl
      have ab := F.above hr
      obtain ⟨_, p1, p2, p3⟩ := F.up hr
      refine iteT (W.fsay T (W.at he ⟨_, rfl, S.funder T ⟨rfl, ?_⟩⟩))
      by_cases u0 : e.row.under = 0
      · rw [decide_eq_true (show V.int e.row.under = V.int 0 by rw [u0])]
        refine iteF ?_
        have e0 : deepI L.rows i = 0 := by simp [deepI, ab, u0, above_zero]
        rw [show f = deepI L.rows n by omega]
        exact k
      · rw [decide_eq_false (show ¬ V.int e.row.under = V.int 0 from fun z => u0 (V.int.inj z))]
        have hu : Here L e.row.under := by
          rcases F.has _ (findR_mem hr) with z | ⟨r, z⟩
          · exact absurd z u0
          · right
            rw [L.find] at z
            cases q : findE L.ents e.row.under with
            | none => rw [q] at z; cases z
            | some e' => exact ⟨e', rfl⟩
        have hd : deepI L.rows i = deepI L.rows e.row.under + 1 := by
          obtain ⟨e', q⟩ := hu.resolve_left u0
          have ab' := F.above (n := e.row.under) (r := e'.row) (by rw [L.find, q]; rfl)
          simp [deepI, ab, ab']
        refine iteT ⟨_, fun _ _ h => h, W.fsay T (W.at he ⟨_, rfl, S.funder T ⟨e.row.under.toNat, by omega, rfl, e.row.under, f + 1, ?_, rfl, hu, by omega⟩⟩)⟩
        simp
theorem fold_wf : ∀ {l : List Int} {rs : Rows}, Wf rs → Wf (l.foldl prune1 rs)
  | [], rs, F => F
  | m :: t, rs, F => fold_wf (l := t) (prune1_wf F m)
theorem fold_len : ∀ (l : List Int) (rs : Rows), (l.foldl prune1 rs).length ≤ rs.length
  | [], rs => Nat.le_refl _
  | m :: t, rs => Nat.le_trans (fold_len t (prune1 rs m)) (prune1_sub rs m).length_le
def spPruned (K : PySem.W.Frag) : Sp := fun vs H Q _ => ∃ L : Lay, vs = [.ref L.p] ∧ WoodAt K H L ∧ L.ents.length < 64 ∧ ∀ H' L', WoodAt K H' L' → L'.wd = ⟨prunedR L.rows, L.came, L.clock⟩ → Step H L H' L' → Q .non H'
abbrev N_pruned : List Str := ["wood", "number"]
theorem sc_pruned : FnScope N_pruned ["wood"] (defScope s_pruned) := ⟨rfl, rfl, rfl, by decide +kernel, rfl, by decide +kernel, by decide +kernel⟩
theorem be_pruned : BindEq "pruned" "pruned" s_pruned ["wood"] := fun _ _ _ _ _ _ us hl => match us, hl with | [_], _ => rfl
theorem D_pruned (T : Txt K mg base) : Def P w K mg base 3 (He.ga K "pruned") ["wood"] (spPruned K) := by
  refine mk_def T.f_pruned sc_pruned be_pruned (fun vs H Q E h => ?_) (fun cdv A outer s H vs Q E hr h => ?_)
  · obtain ⟨L, rfl, _⟩ := h
    rfl
  · obtain ⟨L, rfl, W, l64, k⟩ := h
    refine ⟨_, (pss_one (ps_for ownE rfl (pi_list (pe_revL (pe_md0 (pv 0) T.c_Wood.c T.m_Wood_numbers (D_Wood_numbers T) (by exact hr.mono (by first | decide | omega)) passE))) (pg_name (i := 1) sc_pruned.nd rfl (Or.inl rfl))
      (pss_one (ps_if (PW.pt (pw_and (pt_val (pe_fld (pe_dg (pe_fld (pv 0) (by rfl)) (pv 1) (by exact hu_of hr)) (by rfl))) (pw_and1 (pt_eqd (pe_md (pv 0) T.c_Wood.c T.m_Wood_replies (D_Wood_replies T) (by exact hr.mono (by first | decide | omega)) passE (pa_cons (pv 1) pa_nil)) (pe_lstS pa_nil) (by exact hr.units))))) (pss_one (ps_expr (pe_dp1 (pe_fld (pv 0) (by rfl)) (pv 1)))) pss_nil)))), ?_⟩
    walk_at "rd"
    have nofw : ∀ {L : Lay} {m : String}, m ≠ "sayings" → m ≠ "came" → m ≠ "clock" → (woodFs L.d L.came L.clock).lookup (Str.ofString m) = none := fun h1 h2 h3 => fw_no _ _ _ h1 h2 h3
    refine forL2 (l := (nums L.rows).reverse) V.int (fun R h => ?_) (fun q i σ' H' => SqL K H' q ((nums L.rows).reverse.map V.int) ∧ ∃ (L' : Lay) (x1 : Option V), σ' = [some (.ref L.p), x1] ∧ WoodAt K H' L' ∧ L'.p = L.p ∧ L'.rows = ((nums L.rows).reverse.take i).foldl prune1 L.rows ∧ L'.came = L.came ∧ L'.clock = L.clock ∧ Step H L H' L' ∧ L'.ents.length < 64)
      (fun q H1 s1 h1 => ⟨h1, L, _, rfl, W.same s1, rfl, rfl, rfl, rfl, Step.same s1, l64⟩) (fun q i σ' H' _ h => h.1) (fun q i n σ' H1 D' hi h1 nx ct rt _ => ?_) (fun q σ' H1 h1 => ?_)
    · unfold tRevL
      walk_at "rd"
      refine ⟨_, _, W.top, nofw (by decide) (by decide) (by decide), L, rfl, W, l64, fun p1 H1 n1 s1 e1 => ⟨p1, rfl, _, SqL.of e1, fun p2 n2 => h p2 _ (s1.trans (Same.new n2)) (SqL.of ?_)⟩⟩
      rw [upd_same, List.map_reverse, nums, ← L.keys]
    · obtain ⟨hq, L', x1, rfl, W1, ep, er, ec, ek, st, l4⟩ := h1
      walk_at "rd"
      have ndn : ((nums L.rows).reverse).Nodup := by
        refine (List.reverse_perm _).nodup_iff.mpr ((sortI_perm _).nodup_iff.mpr ?_)
        rw [← L.keys]
        exact W.nk
      have tk : (nums L.rows).reverse.take (i + 1) = (nums L.rows).reverse.take i ++ [n] := by rw [List.take_add_one, hi]; rfl
      have nin : n ∉ (nums L.rows).reverse.take i := fun hm => by
        have nd2 : ((nums L.rows).reverse.take (i + 1)).Nodup := ndn.sublist (List.take_sublist _ _)
        rw [tk, List.nodup_append] at nd2
        exact nd2.2.2 n hm n (List.mem_singleton.mpr rfl) rfl
      obtain ⟨e', he'⟩ : ∃ e', findE L'.ents n = some e' := by
        have hm : n ∈ L.rows.map (·.1) := (sortI_perm _).mem_iff.mp (List.mem_reverse.mp (List.mem_of_getElem? hi))
        obtain ⟨r, hr⟩ := mem_keys.mp hm
        have nk : (L.rows.map (·.1)).Nodup := by rw [← L.keys]; exact W.nk
        have h1 := prune_has nin (findR_of nk hr)
        rw [← er, L'.find] at h1
        cases q : findE L'.ents n with
        | none => rw [q] at h1; cases h1
        | some e' => exact ⟨e', rfl⟩
      have ef := foldl_take prune1 L.rows (nums L.rows).reverse i n hi
      rw [← er] at ef
      have S' := W1.say e' (findE_mem he').1
      have stay : prune1 L'.rows n = L'.rows → ∀ {H2 : Hp}, Same H1 H2 → D'.nx [some (.ref L.p), some (.int n)] H2 := fun hp {H2} s2 => nx _ _ ⟨s2.seq hq, L', _, rfl, W1.same s2, ep, by rw [ef, hp], ec, ek, st.trans (Step.same s2), l4⟩
      rw [← ep]
      refine W1.fsay T (W1.at he' ⟨_, rfl, S'.fstruck T ⟨_, rfl, ?_⟩⟩)
      have rw' : (rowAt L'.rows n).struck = e'.row.struck := by rw [rowAt_find he']
      cases cs : e'.row.struck with
      | false =>
        rw [ep]
        refine iteF (stay ?_ (Same.refl _))
        unfold prune1
        rw [rw', cs]
        rfl
      | true =>
        refine iteT ⟨_, _, W1.top, nofw (by decide) (by decide) (by decide), L', n, rfl, W1, l4, fun q3 H3 n3 s3 e3 => ⟨Nat.zero_le _, fun p4 H4 n4 s4 e4 => ?_⟩⟩
        refine use_eqD (dp_ints (s4 _ _ e3)) (dp_ints (ns := []) e4) (shaped_ints _) (shaped_ints []) ⟨_, rfl, ?_⟩
        rw [eqv_ints]
        have s14 := s3.trans s4
        have W4 := W1.same s14
        by_cases er0 : sortI (repliesR L'.rows n) = []
        · have re : repliesR L'.rows n = [] := by
            have := sortI_perm (repliesR L'.rows n)
            rw [er0] at this
            exact this.nil_eq.symm
          rw [decide_eq_true er0]
          have hp : prune1 L'.rows n = dropR L'.rows n := by
            unfold prune1
            rw [rw', cs, if_pos (by rw [decide_eq_true re]; rfl)]
          refine iteT (W4.fsay T ⟨_, rfl, .inl ⟨_, .inl W4.dic⟩, _, W4.dic, Sum.inl n, rfl, _, by rw [valE, he']; rfl, ?_⟩)
          rw [ep]
          refine nx _ _ ⟨SqL.updD (s14.seq hq) W4.dic, { L' with ents := L'.ents.filter fun e => decide (e.n ≠ n) }, _, rfl, W4.pop n, ep, ?_, ec, ek, (st.trans (Step.same s14)).trans (Step.pop (L := L') n _), Nat.lt_of_le_of_lt (List.length_filter_le _ _) l4⟩
          rw [ef, hp, pop_rows]
        · rw [decide_eq_false er0]
          rw [ep]
          refine iteF (stay ?_ s14)
          unfold prune1
          rw [if_neg (by
            intro z
            simp only [Bool.and_eq_true, decide_eq_true_eq] at z
            rw [z.2] at er0
            exact er0 (sortI_self List.Pairwise.nil))]
    · obtain ⟨hq, L', x1, rfl, W1, ep, er, ec, ek, st, l4⟩ := h1
      walk_at "rd"
      refine k H1 L' W1 ?_ st
      rw [List.take_of_length_le (Nat.le_refl _)] at er
      unfold Lay.wd prunedR
      rw [er, ec, ek]
theorem found_put {H H1 H2 : Hp} {L3 : Lay} {n : Int} {a x v : Addr} {r : Row} (W : WoodAt K H1 L3) (sH : Same H H1) (fn : ∀ b ∈ foot L3, H b = none) (s2 : Same H1 H2) (ha : H1 a = none) (hv : H1 v = none) (S : SayAt K H2 a x v r) (hn : ∀ p ∈ L3.rows, p.1 ≠ n) (sz : L3.rows.length + 1 < 100000) :
    DPut H2 L3.d (.int n) (.ref a) (upd H2 L3.d (.dK (putK (L3.ents.map entK) (Sum.inl n) (.ref a)))) ∧ WoodAt K (upd H2 L3.d (.dK (putK (L3.ents.map entK) (Sum.inl n) (.ref a)))) { L3 with ents := L3.ents ++ [⟨n, r, a, x, v⟩] } ∧
    Same H (upd H2 L3.d (.dK (putK (L3.ents.map entK) (Sum.inl n) (.ref a)))) ∧ (∀ b ∈ foot { L3 with ents := L3.ents ++ [⟨n, r, a, x, v⟩] }, H b = none) ∧ ({ L3 with ents := L3.ents ++ [⟨n, r, a, x, v⟩] } : Lay).rows = L3.rows ++ [(n, r)] := by
  have W2 := W.same s2
  have hn' : ∀ e ∈ L3.ents, e.n ≠ n := fun e he => hn (e.n, e.row) (List.mem_map.mpr ⟨e, he, rfl⟩)
  have vn : valV (L3.ents.map entK) (Sum.inl n) = none := by
    rw [valE]
    have : findE L3.ents n = none := by
      unfold findE
      rw [List.find?_eq_none]
      intro e he
      simpa using hn' e he
    rw [this]
    rfl
  have le := L3.elen
  have ed : putK (L3.ents.map entK) (Sum.inl n) (.ref a) = L3.ents.map entK ++ [entK ⟨n, r, a, x, v⟩] := putK_new _ vn
  have kp : ∀ b o, b ≠ L3.d → H1 b = some o → upd H2 L3.d (.dK (putK (L3.ents.map entK) (Sum.inl n) (.ref a))) b = some o := fun b o hb e => by
    rw [upd_ne hb]
    exact s2 b o e
  have S6 : SayAt K (upd H2 L3.d (.dK (putK (L3.ents.map entK) (Sum.inl n) (.ref a)))) a x v r :=
    ⟨by rw [upd_ne (ne_of S.o W2.dic (by intro q; cases q))]; exact S.o, by rw [upd_ne (fun z => by rw [z, W.dic] at hv; cases hv)]; exact S.d, S.nd, S.sz⟩
  have st : Step H1 L3 (upd H2 L3.d (.dK (putK (L3.ents.map entK) (Sum.inl n) (.ref a)))) { L3 with ents := L3.ents ++ [⟨n, r, a, x, v⟩] } := Step.put ha hv kp
  refine ⟨DPut.k (k := Sum.inl n) W2.dic (by rw [List.length_map, sizeLine_eq]; omega), W.put S6 ha hv hn' kp (by rw [upd_same, ed]) (by omega), fun b o e => ?_, fun b hb => ?_, ?_⟩
  · refine kp b o (fun z => ?_) (sH b o e)
    rw [z, fn L3.d (List.mem_cons_of_mem _ List.mem_cons_self)] at e
    cases e
  · rcases st.new b hb with z | z
    · exact fn b z
    · exact sH.free z
  · unfold Lay.rows
    rw [List.map_append]
    rfl
theorem newKey {rs pre : Rows} {n : Int} {r : Row} (nk : (rs.map (·.1)).Nodup) (h : pre ++ [(n, r)] <+: rs) : ∀ p ∈ pre, p.1 ≠ n := by
  obtain ⟨t, rfl⟩ := h
  intro p hp z
  rw [List.map_append, List.map_append] at nk
  have h1 := (List.nodup_append.mp nk).1
  exact (List.nodup_append.mp h1).2.2 p.1 (List.mem_map.mpr ⟨p, hp, rfl⟩) n (by simp) z
theorem pre1 (B O T' : Wd) (l : List Int) (k : Nat) : part1 B O T' (l.take k) <+: part1 B O T' l := by
  refine ⟨part1 B O T' (l.drop k), ?_⟩
  unfold part1
  rw [← List.map_append, List.take_append_drop]
theorem pre2 (B O : Wd) (l : List Int) (k : Nat) : part2 B O (l.take k) <+: part2 B O l := by
  refine ⟨part2 B O (l.drop k), ?_⟩
  unfold part2
  rw [← List.map_append, ← List.filter_append, List.take_append_drop]
theorem pre3 (B O T' : Wd) (l : List Int) (k : Nat) : part3 B O T' (l.take k) <+: part3 B O T' l := by
  refine ⟨part3 B O T' (l.drop k), ?_⟩
  unfold part3
  rw [← List.map_append, ← List.filter_append, List.take_append_drop]
/-- what is asked of the three woods -/
structure MgOk (B O T' : Wd) : Prop where
  gb : Good B
  go : Good O
  gt : Good T'
  nb : NamesW B
  no : NamesW O
  nt : NamesW T'
  rb : RowsMg B.rows
  ro : RowsMg O.rows
  rt : RowsMg T'.rows
  few : (rawM B O T').length < 64
  wf : comesB B O = true → comesB B T' = true → Wf (rawM B O T')
def spMerged (K : PySem.W.Frag) : Sp := fun vs H Q E => ∃ (B O T' : Lay), vs = [.ref B.p, .ref O.p, .ref T'.p] ∧ WoodAt K H B ∧ WoodAt K H O ∧ WoodAt K H T' ∧ MgOk B.wd O.wd T'.wd ∧
  (∀ M, mergedM B.wd O.wd T'.wd = .ok M → ∀ H' L', WoodAt K H' L' → L'.wd = M → Same H H' → (∀ b ∈ foot L', H b = none) → Q (.ref L'.p) H') ∧ (∀ e, mergedM B.wd O.wd T'.wd = .error e → ∀ H', Same H H' → Bad K E e H')
abbrev N_merged : List Str := ["base", "one", "other", "found", "number", "own", "under"]
theorem sc_merged : FnScope N_merged ["base", "one", "other"] (defScope s_merged) := ⟨rfl, rfl, rfl, by decide +kernel, rfl, by decide +kernel, by decide +kernel⟩
theorem be_merged : BindEq "merged" "merged" s_merged ["base", "one", "other"] := fun _ _ _ _ _ _ us hl => match us, hl with | [_, _, _], _ => rfl
theorem D_merged (T : Txt K mg base) : Def P w K mg base 4 (He.ga K "merged") ["base", "one", "other"] (spMerged K) := by
  refine mk_def T.f_merged sc_merged be_merged (fun vs H Q E h => ?_) (fun cdv A outer s H vs Q E hr h => ?_)
  · obtain ⟨B, O, T', rfl, _⟩ := h
    rfl
  · obtain ⟨B, O, T', rfl, WB, WO, WT, ok, k1, k0⟩ := h
    refine ⟨_, (pss_cons (ps_expr (pe_cd (D_need_kin T) (by exact hr.mono (by first | decide | omega)) T.g_need_kin passE (pa_cons (pv 0) (pa_cons (pv 1) (pa_cons (pv 2) pa_nil)))))
      (pss_cons (ps_set (i := 3) sc_merged.nd rfl (Or.inr rfl) (pe_mk0 T.c_Wood.m (D_Wood___init__ T) (by exact hr.mono (by first | decide | omega)) T.c_Wood.g passE))
      (pss_cons (ps_fld (pv 3) (pe_callB (call_max2 rfl) (by rfl) T.b_max (by decide +kernel) (pa_cons (pe_md0 (pv 1) T.c_Wood.c T.m_Wood_now (D_Wood_now T) (by exact hr.mono (by first | decide | omega)) passE) (pa_cons (pe_md0 (pv 2) T.c_Wood.c T.m_Wood_now (D_Wood_now T) (by exact hr.mono (by first | decide | omega)) passE) pa_nil))) (by rfl))
      (pss_cons (ps_fld (pv 3) (pe_op op_sub (pe_op op_add (pe_fld (pv 1) (by rfl)) (pe_fld (pv 2) (by rfl))) (pe_fld (pv 0) (by rfl))) (by rfl))
      (pss_cons (ps_for ownE rfl (pi_list (pe_md0 (pv 0) T.c_Wood.c T.m_Wood_numbers (D_Wood_numbers T) (by exact hr.mono (by first | decide | omega)) passE)) (pg_name (i := 4) sc_merged.nd rfl (Or.inl rfl))
      (pss_one (ps_dp (pe_fld (pv 3) (by rfl)) (pv 4) (pe_cd (D_merged_saying T) (by exact hr.mono (by first | decide | omega)) T.g_merged_saying passE (pa_cons (pv 0) (pa_cons (pv 1) (pa_cons (pv 2) (pa_cons (pv 4) pa_nil))))) (by exact hu_of hr))))
      (pss_cons (ps_for ownE rfl (pi_list (pe_md0 (pv 1) T.c_Wood.c T.m_Wood_numbers (D_Wood_numbers T) (by exact hr.mono (by first | decide | omega)) passE)) (pg_name (i := 4) sc_merged.nd rfl (Or.inl rfl))
      (pss_one (ps_if (pt_cmpR op_gt (pv 4) (pe_fld (pv 0) (by rfl)) (nomark _)) (pss_cons (ps_set (i := 5) sc_merged.nd rfl (Or.inl rfl) (pe_dg (pe_fld (pv 1) (by rfl)) (pv 4) (by exact hu_of hr)))
      (pss_one (ps_dp (pe_fld (pv 3) (by rfl)) (pv 4) (pe_cd (D_copied T) (by exact hr.mono (by first | decide | omega)) T.g_copied passE (pa_cons (pv 5) (pa_cons (pe_fld (pv 5) (by rfl)) (pa_cons (pe_fld (pv 5) (by rfl)) pa_nil)))) (by exact hu_of hr)))) pss_nil)))
      (pss_cons (ps_for ownE rfl (pi_list (pe_md0 (pv 2) T.c_Wood.c T.m_Wood_numbers (D_Wood_numbers T) (by exact hr.mono (by first | decide | omega)) passE)) (pg_name (i := 4) sc_merged.nd rfl (Or.inl rfl))
      (pss_one (ps_if (pt_cmpR op_gt (pv 4) (pe_fld (pv 0) (by rfl)) (nomark _)) (pss_cons (ps_set (i := 5) sc_merged.nd rfl (Or.inl rfl) (pe_dg (pe_fld (pv 2) (by rfl)) (pv 4) (by exact hu_of hr)))
      (pss_cons (ps_set (i := 6) sc_merged.nd rfl (Or.inl rfl) (pe_cd (D_moved T) (by exact hr.mono (by first | decide | omega)) T.g_moved passE (pa_cons (pv 0) (pa_cons (pv 1) (pa_cons (pe_fld (pv 5) (by rfl)) pa_nil)))))
      (pss_one (ps_dp (pe_fld (pv 3) (by rfl)) (pe_cd (D_moved T) (by exact hr.mono (by first | decide | omega)) T.g_moved passE (pa_cons (pv 0) (pa_cons (pv 1) (pa_cons (pv 4) pa_nil)))) (pe_cd (D_copied T) (by exact hr.mono (by first | decide | omega)) T.g_copied passE (pa_cons (pv 5) (pa_cons (pv 6) (pa_cons (pe_callB (call_max2 rfl) (by rfl) T.b_max (by decide +kernel) (pa_cons (pe_fld (pv 5) (by rfl)) (pa_cons (pe_md0 (pv 1) T.c_Wood.c T.m_Wood_now (D_Wood_now T) (by exact hr.mono (by first | decide | omega)) passE) pa_nil))) pa_nil)))) (by exact hu_of hr))))) pss_nil)))
      (pss_cons (ps_expr (pe_cd (D_pruned T) (by exact hr.mono (by first | decide | omega)) T.g_pruned passE (pa_cons (pv 3) pa_nil)))
      (pss_cons (ps_if (PW.pt (pw_or (pt_cmpR op_gt (pe_callB call_lenD (by rfl) T.b_len (by decide +kernel) (pa_cons (pe_fld (pv 3) (by rfl)) pa_nil)) (pe_gk T.k_MOST_SAYINGS) (nomark _)) (pw_or1 (pt_val (pe_callB (cr_any rfl) (by rfl) T.b_any (by decide +kernel) (pa_cons (pe_lock (pe_lc (own := [("number", 4)]) (g := gName 4) rfl sc_merged.nd (pi_keys (pe_fld (pv 3) (by rfl))) (blkOk_by (N := N_merged) (sc := defScope s_merged) (by decide +kernel)) (fun _ _ _ _ _ => by exact (pg_name (i := 4) sc_merged.nd rfl (Or.inl rfl))) (fun _ _ _ _ _ => pts_nil) (fun _ _ _ _ _ => by exact (pe_cmpR op_ge (pe_md (pv 3) T.c_Wood.c T.m_Wood_deep (D_Wood_deepF T) (by exact hr.mono (by first | decide | omega)) passF (pa_cons (pv 4) pa_nil)) (pe_gk T.k_MOST_DEEP) (nomark _))))) pa_nil)))))) (pss_one (ps_rs T.x_Full)) pss_nil)
      (pss_one (ps_ret (pv 3)))))))))))), ?_⟩
    walk_at "rd"
    refine ⟨B, O, T', rfl, WB, WO, WT, ok.go, ok.gt, ok.nb, ok.no, ok.nt, fun c1 c2 H1 s1 => ?_, fun c H1 s1 => k0 .kin (if_pos c) H1 s1⟩
    have kr := ok.wf c1 c2
    intro p dx hp hdx npd
    refine ⟨p, dx, rfl, upd_same, ?_⟩
    intro d H2 nd W2 k2
    have nofw : ∀ {L : Lay} {m : String}, m ≠ "sayings" → m ≠ "came" → m ≠ "clock" → (woodFs L.d L.came L.clock).lookup (Str.ofString m) = none := fun h1 h2 h3 => fw_no _ _ _ h1 h2 h3
    have sa : Same H1 (upd (upd H1 dx (.own p)) p (.ins (cW K) dx [])) := (Same.new hdx).trans (Same.new (by rw [upd_ne npd.symm]; exact hp))
    have s2 : Same H1 H2 := fun b o e => k2 b o (ne_of_none e hp) (sa b o e)
    have s02 := s1.trans s2
    have hp0 : H p = none := s1.free hp
    have hd0 : H d = none := s1.free (sa.free nd)
    refine ⟨rfl, _, _, (WO.same s02).top, nofw (by decide) (by decide) (by decide), O, rfl, WO.same s02, _, _, (WT.same s02).top, nofw (by decide) (by decide) (by decide), T', rfl, WT.same s02, _, rfl, _, rfl, _, _, _, W2.top, T.c_Wood.c, T.n_Wood_clock, by rw [fw_len]; decide, ?_⟩
    have emx : (if T'.clock > O.clock then T'.clock else O.clock) = max O.clock T'.clock := by
      by_cases c : T'.clock > O.clock
      · rw [if_pos c]; omega
      · rw [if_neg c]; omega
    rw [emx, fpw_clock]
    have W3 := W2.setTop 0 (max O.clock T'.clock)
    have s3 : Same H1 (upd H2 p (.ins (cW K) dx (woodFs d 0 (max O.clock T'.clock)))) := s2.over hp
    change WoodAt K (upd H2 p (.ins (cW K) dx (woodFs d 0 (max O.clock T'.clock)))) ⟨p, dx, d, [], 0, max O.clock T'.clock⟩ at W3
    generalize hH3 : upd H2 p (.ins (cW K) dx (woodFs d 0 (max O.clock T'.clock))) = H3 at W3 s3
    have s03 := s1.trans s3
    refine (WO.same s03).fcame T ((WT.same s03).fcame T ⟨_, rfl, _, rfl, (WB.same s03).fcame T ⟨_, rfl, _, _, _, W3.top, T.c_Wood.c, T.n_Wood_came, by rw [fw_len]; decide, ?_⟩⟩)
    rw [fpw_came]
    have W4 := W3.setTop (O.came + T'.came - B.came) (max O.clock T'.clock)
    have s4 : Same H1 (upd H3 p (.ins (cW K) dx (woodFs d (O.came + T'.came - B.came) (max O.clock T'.clock)))) := s3.over hp
    change WoodAt K (upd H3 p (.ins (cW K) dx (woodFs d (O.came + T'.came - B.came) (max O.clock T'.clock)))) ⟨p, dx, d, [], O.came + T'.came - B.came, max O.clock T'.clock⟩ at W4
    generalize hH4 : upd H3 p (.ins (cW K) dx (woodFs d (O.came + T'.came - B.came) (max O.clock T'.clock))) = H4 at W4 s4
    have s04 := s1.trans s4
    have f4 : ∀ b ∈ foot ⟨p, dx, d, [], O.came + T'.came - B.came, max O.clock T'.clock⟩, H b = none := fun b hb => by
      have hb : b = p ∨ b = d := by simpa [foot] using hb
      rcases hb with rfl | rfl
      · exact hp0
      · exact hd0
    have inE : ∀ {M : Lay} {n : Int}, WoodAt K H M → n ∈ nums M.rows → ∃ e, findE M.ents n = some e := fun {M n} WM hn => by
      obtain ⟨r, hr⟩ := mem_keys.mp ((sortI_perm _).mem_iff.mp hn)
      obtain ⟨e, he, q⟩ := List.mem_map.mp hr
      cases q
      exact ⟨e, findE_of WM.nk he⟩
    have rl : (rawM B.wd O.wd T'.wd).length < 64 := ok.few
    let cc := O.came + T'.came - B.came
    let kk := max O.clock T'.clock
    refine forL2 (l := nums B.rows) V.int (fun R h => ?_) (fun q i σ' H' => SqL K H' q ((nums B.rows).map V.int) ∧ ∃ (L3 : Lay) (x4 x5 x6 : Option V), σ' = [some (.ref B.p), some (.ref O.p), some (.ref T'.p), some (.ref p), x4, x5, x6] ∧ WoodAt K H' L3 ∧ L3.p = p ∧ L3.rows = part1 B.wd O.wd T'.wd ((nums B.rows).take i) ∧ L3.came = cc ∧ L3.clock = kk ∧ Same H H' ∧ ∀ b ∈ foot L3, H b = none)
      (fun q H5 s5 h5 => ⟨h5, _, _, _, _, rfl, W4.same s5, rfl, rfl, rfl, rfl, s04.trans s5, f4⟩) (fun q i σ' H' _ h => h.1) (fun q i n σ' H5 D' hi h5 nx ct rt _ => ?_) (fun q σ' H5 h5 => ?_)
    · walk_at "rd"
      exact ⟨_, _, (WB.same s04).top, nofw (by decide) (by decide) (by decide), use_numbers (WB.same s04) ok.gb fun p1 H5 n1 s5 e1 => h p1 H5 s5 (SqL.of e1)⟩
    · obtain ⟨hq, L3, x4, x5, x6, rfl, W5, ep, er, ec, ek, s5, f5⟩ := h5
      walk_at "rd"
      obtain ⟨e, fe⟩ := inE WB (List.mem_of_getElem? hi)
      have tk : (nums B.rows).take (i + 1) = (nums B.rows).take i ++ [n] := by rw [List.take_add_one, hi]; rfl
      have e1 := part1_app B.wd O.wd T'.wd ((nums B.rows).take i) n
      rw [← tk] at e1
      have pf : part1 B.wd O.wd T'.wd ((nums B.rows).take (i + 1)) <+: rawM B.wd O.wd T'.wd := by
        unfold rawM
        rw [List.append_assoc]
        exact (pre1 _ _ _ _ _).trans (List.prefix_append _ _)
      have ln := pf.length_le
      rw [e1] at pf ln
      have nk := newKey kr.nk pf
      rw [← er] at nk ln
      refine ⟨B, O, T', n, e, rfl, WB.same s5, WO.same s5, WT.same s5, fe, ok.rb, ok.ro, ok.rt, fun a x v H6 ha hv s6 S6 => ?_⟩
      rw [← ep]
      refine (W5.same s6).fsay T ?_
      obtain ⟨g1, g2, g3, g4, g5⟩ := found_put W5 s5 f5 s6 ha hv S6 nk (by rw [List.length_append] at ln; omega)
      refine ⟨_, rfl, _, g1, ?_⟩
      rw [ep]
      refine nx _ _ ⟨SqL.updD (s6.seq hq) (W5.same s6).dic, _, _, _, _, rfl, g2, ep, ?_, ec, ek, g3, g4⟩
      rw [g5, e1, er, show rowAt B.wd.rows n = e.row from rowAt_find fe]
      rfl
    · obtain ⟨hq, L3, x4, x5, x6, rfl, W5, ep, er, ec, ek, s5, f5⟩ := h5
      rw [List.take_of_length_le (Nat.le_refl _)] at er
      clear hq
      walk_at "rd"
      refine forL2 (l := nums O.rows) V.int (fun R h => ?_) (fun q i σ' H' => SqL K H' q ((nums O.rows).map V.int) ∧ ∃ (L3 : Lay) (x4 x5 x6 : Option V), σ' = [some (.ref B.p), some (.ref O.p), some (.ref T'.p), some (.ref p), x4, x5, x6] ∧ WoodAt K H' L3 ∧ L3.p = p ∧ L3.rows = part1 B.wd O.wd T'.wd (nums B.rows) ++ part2 B.wd O.wd ((nums O.rows).take i) ∧ L3.came = cc ∧ L3.clock = kk ∧ Same H H' ∧ ∀ b ∈ foot L3, H b = none)
        (fun q H6 s6 h6 => ⟨h6, L3, _, _, _, rfl, W5.same s6, ep, by rw [er]; simp [part2], ec, ek, s5.trans s6, f5⟩) (fun q i σ' H' _ h => h.1) (fun q i n σ' H6 D' hi h6 nx ct rt _ => ?_) (fun q σ' H6 h6 => ?_)
      · walk_at "rd"
        exact ⟨_, _, (WO.same s5).top, nofw (by decide) (by decide) (by decide), use_numbers (WO.same s5) ok.go fun p1 H6 n1 s6 e1 => h p1 H6 s6 (SqL.of e1)⟩
      · clear W5 ep er ec ek f5
        obtain ⟨hq, L3, x4, x5, x6, rfl, W5, ep, er, ec, ek, s5, f5⟩ := h6
        walk_at "rd"
        obtain ⟨e, fe⟩ := inE WO (List.mem_of_getElem? hi)
        have tk : (nums O.rows).take (i + 1) = (nums O.rows).take i ++ [n] := by rw [List.take_add_one, hi]; rfl
        have e1 := part2_app B.wd O.wd ((nums O.rows).take i) n
        rw [← tk] at e1
        have pf : part1 B.wd O.wd T'.wd (nums B.rows) ++ part2 B.wd O.wd ((nums O.rows).take (i + 1)) <+: rawM B.wd O.wd T'.wd := by
          unfold rawM
          exact ((List.prefix_append_right_inj _).mpr (pre2 _ _ _ _)).trans (List.prefix_append _ _)
        refine (WB.same s5).fcame T ⟨_, rfl, ?_⟩
        by_cases c : B.came < n
        · rw [if_pos (show n > B.wd.came from c)] at e1
          rw [decide_eq_true c]
          have ln := pf.length_le
          rw [e1, ← List.append_assoc] at pf ln
          have nk := newKey kr.nk pf
          rw [← er] at nk ln
          have se := (WO.same s5).say e (findE_mem fe).1
          refine iteT ((WO.same s5).fsay T ((WO.same s5).at fe ⟨_, rfl, se.funder T ⟨_, rfl, se.ftime T ⟨e.a, e.x, e.v, e.row, _, _, rfl, se, fun a x v H7 ha hv s7 S7 => ?_⟩⟩⟩))
          rw [← ep]
          refine (W5.same s7).fsay T ?_
          obtain ⟨g1, g2, g3, g4, g5⟩ := found_put W5 s5 f5 s7 ha hv S7 nk (by rw [List.length_append] at ln; omega)
          refine ⟨_, rfl, _, g1, ?_⟩
          rw [ep]
          refine nx _ _ ⟨SqL.updD (s7.seq hq) (W5.same s7).dic, _, _, _, _, rfl, g2, ep, ?_, ec, ek, g3, g4⟩
          rw [g5, e1, er, List.append_assoc, show rowAt O.wd.rows n = e.row from rowAt_find fe]
          rfl
        · rw [if_neg (show ¬ n > B.wd.came from c)] at e1
          rw [decide_eq_false c]
          exact iteF (nx _ _ ⟨hq, L3, _, _, _, rfl, W5, ep, by rw [er, e1], ec, ek, s5, f5⟩)
      · clear W5 ep er ec ek f5
        obtain ⟨hq, L3, x4, x5, x6, rfl, W5, ep, er, ec, ek, s5, f5⟩ := h6
        rw [List.take_of_length_le (Nat.le_refl _)] at er
        clear hq
        walk_at "rd"
        refine forL2 (l := nums T'.rows) V.int (fun R h => ?_) (fun q i σ' H' => SqL K H' q ((nums T'.rows).map V.int) ∧ ∃ (L3 : Lay) (x4 x5 x6 : Option V), σ' = [some (.ref B.p), some (.ref O.p), some (.ref T'.p), some (.ref p), x4, x5, x6] ∧ WoodAt K H' L3 ∧ L3.p = p ∧ L3.rows = part1 B.wd O.wd T'.wd (nums B.rows) ++ part2 B.wd O.wd (nums O.rows) ++ part3 B.wd O.wd T'.wd ((nums T'.rows).take i) ∧ L3.came = cc ∧ L3.clock = kk ∧ Same H H' ∧ ∀ b ∈ foot L3, H b = none)
          (fun q H6 s6 h6 => ⟨h6, L3, _, _, _, rfl, W5.same s6, ep, by rw [er]; simp [part3], ec, ek, s5.trans s6, f5⟩) (fun q i σ' H' _ h => h.1) (fun q i n σ' H6 D' hi h6 nx ct rt _ => ?_) (fun q σ' H6 h6 => ?_)
        · walk_at "rd"
          exact ⟨_, _, (WT.same s5).top, nofw (by decide) (by decide) (by decide), use_numbers (WT.same s5) ok.gt fun p1 H6 n1 s6 e1 => h p1 H6 s6 (SqL.of e1)⟩
        · clear W5 ep er ec ek f5
          obtain ⟨hq, L3, x4, x5, x6, rfl, W5, ep, er, ec, ek, s5, f5⟩ := h6
          walk_at "rd"
          obtain ⟨e, fe⟩ := inE WT (List.mem_of_getElem? hi)
          have tk : (nums T'.rows).take (i + 1) = (nums T'.rows).take i ++ [n] := by rw [List.take_add_one, hi]; rfl
          have e1 := part3_app B.wd O.wd T'.wd ((nums T'.rows).take i) n
          rw [← tk] at e1
          have pf : part1 B.wd O.wd T'.wd (nums B.rows) ++ part2 B.wd O.wd (nums O.rows) ++ part3 B.wd O.wd T'.wd ((nums T'.rows).take (i + 1)) <+: rawM B.wd O.wd T'.wd := (List.prefix_append_right_inj _).mpr (pre3 _ _ _ _ _)
          refine (WB.same s5).fcame T ⟨_, rfl, ?_⟩
          by_cases c : B.came < n
          · rw [if_pos (show n > B.wd.came from c)] at e1
            rw [decide_eq_true c]
            have ln := pf.length_le
            rw [e1, ← List.append_assoc] at pf ln
            have nk := newKey kr.nk pf
            rw [← er] at nk ln
            have se := (WT.same s5).say e (findE_mem fe).1
            have era : rowAt T'.wd.rows n = e.row := rowAt_find fe
            refine iteT ((WT.same s5).fsay T ((WT.same s5).at fe ⟨_, rfl, se.funder T ⟨B, O, _, rfl, WB.same s5, WO.same s5, ?_⟩⟩))
            refine ⟨_, rfl, se.ftime T ⟨_, _, (WO.same s5).top, nofw (by decide) (by decide) (by decide), O, rfl, WO.same s5, _, rfl, _, rfl, ?_⟩⟩
            have emx : (if O.clock > e.row.time then O.clock else e.row.time) = max e.row.time O.clock := by
              by_cases c : O.clock > e.row.time
              · rw [if_pos c]; omega
              · rw [if_neg c]; omega
            refine ⟨e.a, e.x, e.v, e.row, _, _, rfl, se, fun a x v H7 ha hv s7 S7 => ?_⟩
            rw [← ep]
            refine (W5.same s7).fsay T ⟨B, O, n, rfl, (WB.same s5).same s7, (WO.same s5).same s7, ?_⟩
            obtain ⟨g1, g2, g3, g4, g5⟩ := found_put W5 s5 f5 s7 ha hv S7 nk (by rw [List.length_append] at ln; omega)
            refine ⟨_, rfl, _, g1, ?_⟩
            rw [ep]
            refine nx _ _ ⟨SqL.updD (s7.seq hq) (W5.same s7).dic, _, _, _, _, rfl, g2, ep, ?_, ec, ek, g3, g4⟩
            rw [g5, e1, er, era, List.append_assoc, emx]
            rfl
          · rw [if_neg (show ¬ n > B.wd.came from c)] at e1
            rw [decide_eq_false c]
            exact iteF (nx _ _ ⟨hq, L3, _, _, _, rfl, W5, ep, by rw [er, e1], ec, ek, s5, f5⟩)
        · clear W5 ep er ec ek f5
          obtain ⟨hq, L3, x4, x5, x6, rfl, W5, ep, er, ec, ek, s5, f5⟩ := h6
          rw [List.take_of_length_le (Nat.le_refl _)] at er
          walk_at "rd"
          have er' : L3.rows = rawM B.wd O.wd T'.wd := er
          rw [← ep]
          refine ⟨L3, rfl, W5, by rw [L3.elen, er']; exact rl, fun H7 L4 W7 w7 st7 => ?_⟩
          have r7 : L4.rows = prunedR (rawM B.wd O.wd T'.wd) := by
            have := congrArg Wd.rows w7
            rw [er'] at this
            exact this
          have c7 : L4.came = cc := (congrArg Wd.came w7).trans ec
          have k7 : L4.clock = kk := (congrArg Wd.clock w7).trans ek
          have F7 : Wf L4.rows := by rw [r7]; exact fold_wf kr
          have p7 : L4.p = L3.p := st7.p
          have s7 : Same H H7 := fun b o e => st7.keep b o (fun hb => by rw [f5 b hb] at e; cases e) (s5 b o e)
          have f7 : ∀ b ∈ foot L4, H b = none := fun b hb => by
            rcases st7.new b hb with z | z
            · exact f5 b z
            · exact s5.free z
          have emg : mergedM B.wd O.wd T'.wd = if tooMuch (prunedR (rawM B.wd O.wd T'.wd)) then .error .full else .ok ⟨prunedR (rawM B.wd O.wd T'.wd), O.came + T'.came - B.came, max O.clock T'.clock⟩ := by
            unfold mergedM
            rw [if_neg (by rw [c1, c2]; simp)]
            rfl
          rw [← p7]
          refine W7.fsay T ⟨_, rfl, _, W7.dic, ?_⟩
          rw [List.length_map, L4.elen]
          have full : ∀ {H8 : Hp}, Same H7 H8 → tooMuch L4.rows = true → Bad K E .full H8 := fun {H8} s8 h => k0 .full (by rw [emg, ← r7, h]; rfl) H8 (s7.trans s8)
          have z9 : (100000 : Nat) < sizeLine := by rw [sizeLine_eq]; omega
          have l7 : L4.rows.length < 64 := by
            rw [r7]
            exact Nat.lt_of_le_of_lt (fold_len _ _) rl
          by_cases c60 : (60 : Int) < (L4.rows.length : Nat)
          · rw [decide_eq_true c60]
            refine iteT (full (Same.refl _) ?_)
            unfold tooMuch
            rw [decide_eq_true (show 60 < L4.rows.length by omega)]
            rfl
          · rw [decide_eq_false c60]
            refine iteF (lcK (l := L4.ents) entK (fun e => some (V.bl (decide (8 ≤ deepI L4.rows e.n)))) W7.dic (fun H' R keep r => ?_) (by rw [L4.elen]; omega) (fun e H' od he keep lk N1 N0 n1 n0 => ?_) (fun D H8 n8 s8 e8 => ?_))
            · walk_at "rd"
              exact fld (keep _ _ (ne_of W7.top W7.dic (by intro q; cases q)) W7.top) T.c_Wood.c T.n_Wood_sayings (fw_sayings _ _ _) r
            · have WR : WoodRd K H' L4 := ⟨keep _ _ (ne_of W7.top W7.dic (by intro q; cases q)) W7.top, .inr ⟨od, lk⟩, fun f hf => by
                have S := W7.say f hf
                exact ⟨keep _ _ (ne_of S.o W7.dic (by intro q; cases q)) S.o, keep _ _ (W7.dv f hf) S.d, S.nd, S.sz⟩⟩
              walk_at "rd"
              refine ⟨_, _, WR.top, nofw (by decide) (by decide) (by decide), L4, e.n, rfl, WR, F7, .inr ⟨e, findE_of W7.nk he⟩, _, rfl, ?_⟩
              refine n1 _ _ (Same.refl _) ?_
              congr 2
              simp
              omega
            · refine ⟨D, L4.ents.map fun e => decide (8 ≤ deepI L4.rows e.n), rfl, ?_, _, rfl, ?_⟩
              · rw [List.map_map]
                rw [filterMap_fun] at e8
                exact SqL.of e8
              · have ea : ((L4.ents.map fun e => decide (8 ≤ deepI L4.rows e.n)).any id) = ((L4.rows.map (·.1)).any fun n => decide (8 ≤ deepI L4.rows n)) := by
                  rw [← L4.keys, List.any_map, List.any_map]
                  rfl
                rw [ea]
                have et : tooMuch L4.rows = ((L4.rows.map (·.1)).any fun n => decide (8 ≤ deepI L4.rows n)) := by
                  unfold tooMuch
                  rw [decide_eq_false (show ¬ 60 < L4.rows.length by omega)]
                  rfl
                rw [← et]
                cases ct : tooMuch L4.rows with
                | true => exact iteT (full s8 ct)
                | false =>
                  refine iteF (k1 _ (by rw [emg, ← r7, ct]; rfl) H8 L4 (W7.same s8) ?_ (s7.trans s8) f7)
                  show (⟨L4.rows, L4.came, L4.clock⟩ : Wd) = _
                  rw [r7, c7, k7]
end
end Vw
namespace Vw
open PySem PySem.Spec PyProof.Rows L2
/-! ### merges: plain law: the rows put together are rows of a wood -/
theorem mem_nums {rs : Rows} {n : Int} : n ∈ nums rs ↔ ∃ r, (n, r) ∈ rs := (sortI_perm _).mem_iff.trans mem_keys
theorem nums_row {rs : Rows} (nk : (rs.map (·.1)).Nodup) {n : Int} (h : n ∈ nums rs) : findR rs n = some (rowAt rs n) ∧ (n, rowAt rs n) ∈ rs := by
  obtain ⟨r, hr⟩ := mem_nums.mp h
  have h1 := findR_of nk hr
  have h2 : rowAt rs n = r := by unfold rowAt; rw [h1]; rfl
  rw [h2]
  exact ⟨h1, hr⟩
theorem nodup_nums {rs : Rows} (nk : (rs.map (·.1)).Nodup) : (nums rs).Nodup := (sortI_perm _).nodup_iff.mpr nk
theorem keys1 (B O T : Wd) (l : List Int) : (part1 B O T l).map (·.1) = l := by
  unfold part1
  rw [List.map_map]
  exact List.map_id' l
theorem keys2 (B O : Wd) (l : List Int) : (part2 B O l).map (·.1) = l.filter fun n => decide (n > B.came) := by
  unfold part2
  rw [List.map_map]
  exact List.map_id' _
theorem keys3 (B O T : Wd) (l : List Int) : (part3 B O T l).map (·.1) = (l.filter fun n => decide (n > B.came)).map (movedN B O) := by
  unfold part3
  rw [List.map_map]
  rfl
theorem moved_gt {B O : Wd} {n : Int} (h : n > B.came) : movedN B O n = n - B.came + O.came := if_neg (by omega)
theorem moved_le {B O : Wd} {n : Int} (h : n ≤ B.came) : movedN B O n = n := if_pos h
theorem raw_keys {B O T : Wd} (gb : Good B) (go : Good O) (gt : Good T) (cb : B.came ≤ O.came) : ((rawM B O T).map (·.1)).Nodup := by
  unfold rawM
  rw [List.map_append, List.map_append, keys1, keys2, keys3]
  have leB : ∀ n ∈ nums B.rows, n ≤ B.came := fun n hn => by
    obtain ⟨r, hr⟩ := mem_nums.mp hn
    exact gb.le _ hr
  have leO : ∀ n ∈ nums O.rows, n ≤ O.came := fun n hn => by
    obtain ⟨r, hr⟩ := mem_nums.mp hn
    exact go.le _ hr
  refine List.nodup_append.mpr ⟨List.nodup_append.mpr ⟨nodup_nums gb.wf.nk, (nodup_nums go.wf.nk).sublist List.filter_sublist, fun a ha b hb e => ?_⟩, ?_, fun a ha b hb e => ?_⟩
  · have h1 := leB a ha
    have h2 := List.mem_filter.mp hb
    have h3 : b > B.came := by simpa using h2.2
    omega
  · have nd := (nodup_nums gt.wf.nk).sublist (List.filter_sublist (p := fun n => decide (n > B.came)))
    refine List.pairwise_map.mpr (List.Pairwise.imp_of_mem (fun {a b} ha hb hne e => hne ?_) nd)
    have h1 : a > B.came := by simpa using (List.mem_filter.mp ha).2
    have h2 : b > B.came := by simpa using (List.mem_filter.mp hb).2
    rw [moved_gt h1, moved_gt h2] at e
    omega
  · obtain ⟨m, hm, rfl⟩ := List.mem_map.mp hb
    have h1 : m > B.came := by simpa using (List.mem_filter.mp hm).2
    rw [moved_gt h1] at e
    rcases List.mem_append.mp ha with z | z
    · have := leB a z
      omega
    · have := leO a (List.mem_filter.mp z).1
      omega
theorem row_old {B M : Wd} (c : ComesOf B M) {n : Int} {r : Row} (h : (n, r) ∈ M.rows) (hn : n ≤ B.came) : ∃ b, findR B.rows n = some b ∧ b.who = r.who ∧ b.under = r.under ∧ b.time = r.time ∧ (b.struck = true → r.struck = true) := by
  have := c.r _ h
  unfold rowOf at this
  rw [if_neg (show ¬ n > B.came by omega)] at this
  dsimp only at this
  cases q : findR B.rows n with
  | none => rw [q] at this; cases this
  | some b =>
    rw [q] at this
    exact ⟨b, rfl, like_iff.mp this⟩
theorem raw_wf {B O T : Wd} (gb : Good B) (go : Good O) (gt : Good T) (c0 : 0 ≤ B.came) (co : ComesOf B O) (ct : ComesOf B T) : Wf (rawM B O T) := by
  have nk := raw_keys gb go gt co.c
  have cb := co.c
  have hasB : ∀ {n : Int} {r : Row}, (n, r) ∈ B.rows → ∃ r', findR (rawM B O T) n = some r' := fun {n r} h => by
    refine ⟨_, findR_of nk (r := mergedRow B.rows O.rows T.rows n (rowAt B.rows n)) ?_⟩
    unfold rawM
    exact List.mem_append_left _ (List.mem_append_left _ (List.mem_map.mpr ⟨n, mem_nums.mpr ⟨r, h⟩, rfl⟩))
  have hasO : ∀ {n : Int} {r : Row}, (n, r) ∈ O.rows → ∃ r', findR (rawM B O T) n = some r' := fun {n r} h => by
    by_cases c : n > B.came
    · refine ⟨_, findR_of nk (r := rowAt O.rows n) ?_⟩
      unfold rawM
      exact List.mem_append_left _ (List.mem_append_right _ (List.mem_map.mpr ⟨n, List.mem_filter.mpr ⟨mem_nums.mpr ⟨r, h⟩, by simpa using c⟩, rfl⟩))
    · obtain ⟨b, hb, _⟩ := row_old co h (by omega)
      exact hasB (findR_mem hb)
  have hasT : ∀ {n : Int} {r : Row}, (n, r) ∈ T.rows → ∃ r', findR (rawM B O T) (movedN B O n) = some r' := fun {n r} h => by
    by_cases c : n > B.came
    · refine ⟨_, findR_of nk (r := copyR (rowAt T.rows n) (movedN B O (rowAt T.rows n).under) (max (rowAt T.rows n).time O.clock)) ?_⟩
      unfold rawM
      exact List.mem_append_right _ (List.mem_map.mpr ⟨n, List.mem_filter.mpr ⟨mem_nums.mpr ⟨r, h⟩, by simpa using c⟩, rfl⟩)
    · obtain ⟨b, hb, _⟩ := row_old ct h (by omega)
      rw [moved_le (by omega)]
      exact hasB (findR_mem hb)
  have cases3 : ∀ p ∈ rawM B O T, 0 < p.1 ∧ 0 ≤ p.2.under ∧ p.2.under < p.1 ∧ (p.2.under = 0 ∨ ∃ r, findR (rawM B O T) p.2.under = some r) := fun p hp => by
    unfold rawM at hp
    rcases List.mem_append.mp hp with hp | hp
    · rcases List.mem_append.mp hp with hp | hp
      · obtain ⟨n, hn, rfl⟩ := List.mem_map.mp hp
        obtain ⟨h1, h2⟩ := nums_row gb.wf.nk hn
        refine ⟨gb.wf.pos (n, rowAt B.rows n) h2, gb.wf.u0 (n, rowAt B.rows n) h2, gb.wf.ult (n, rowAt B.rows n) h2, ?_⟩
        rcases gb.wf.has _ h2 with z | ⟨r, z⟩
        · exact .inl z
        · exact .inr (hasB (findR_mem z))
      · obtain ⟨n, hn, rfl⟩ := List.mem_map.mp hp
        obtain ⟨h1, h2⟩ := nums_row go.wf.nk (List.mem_filter.mp hn).1
        refine ⟨go.wf.pos _ h2, go.wf.u0 _ h2, go.wf.ult _ h2, ?_⟩
        rcases go.wf.has _ h2 with z | ⟨r, z⟩
        · exact .inl z
        · exact .inr (hasO (findR_mem z))
    · obtain ⟨n, hn, rfl⟩ := List.mem_map.mp hp
      obtain ⟨h1, h2⟩ := nums_row gt.wf.nk (List.mem_filter.mp hn).1
      have hg : n > B.came := by simpa using (List.mem_filter.mp hn).2
      have u0 := gt.wf.u0 _ h2
      have ul := gt.wf.ult _ h2
      have em := moved_gt (O := O) hg
      dsimp only at u0 ul
      have um : 0 ≤ movedN B O (rowAt T.rows n).under ∧ movedN B O (rowAt T.rows n).under < movedN B O n := by
        rw [em]
        by_cases c : (rowAt T.rows n).under ≤ B.came
        · rw [moved_le c]
          omega
        · rw [moved_gt (by omega)]
          omega
      refine ⟨by dsimp only; rw [em]; omega, um.1, um.2, ?_⟩
      rcases gt.wf.has _ h2 with z | ⟨r, z⟩
      · left
        show movedN B O (rowAt T.rows n).under = 0
        rw [show (rowAt T.rows n).under = 0 from z, moved_le (by omega)]
      · exact .inr (hasT (findR_mem z))
  exact ⟨nk, fun p hp => (cases3 p hp).1, fun p hp => (cases3 p hp).2.1, fun p hp => (cases3 p hp).2.2.1, fun p hp => (cases3 p hp).2.2.2⟩
theorem MgOk.of {B O T : Wd} {m1 m2 m3 : Nat} (fb : Fine B m1) (fo : Fine O m2) (ft : Fine T m3) (l1 : m1 ≤ 1000) (l2 : m2 ≤ 1000) (l3 : m3 ≤ 1000) (few : (rawM B O T).length < 64) : MgOk B O T := by
  have sh : ∀ {M : Wd} {m : Nat}, Fine M m → m ≤ 1000 → RowsMg M.rows := fun {M m} f l p hp => ⟨?_, Nat.le_trans (f.vl p hp) l⟩
  · exact ⟨fb.G, fo.G, ft.G, fb.nw, fo.nw, ft.nw, sh fb l1, sh fo l2, sh ft l3, few, fun c1 c2 => raw_wf fb.G fo.G ft.G fb.c0 (comesB_iff.mp c1) (comesB_iff.mp c2)⟩
  · intro h
    have := str_text ((f.ro p hp).2.1 h)
    simp [SeqAt.shaped, PyData.canLay0, PyData.depth, this]
end Vw
namespace Vw
open PySem PySem.Spec PyProof.Rows L2
/-! ### what pruned leaves: whatever is not struck, or has something under it that is not -/
def Alive (rs : Rows) (n : Int) : Prop := ∃ m r, findR rs m = some r ∧ r.struck = false ∧ (m = n ∨ n ∈ aboveR rs m)
open Classical in
noncomputable def aliveB (rs : Rows) (n : Int) : Bool := decide (Alive rs n)
theorem alive_under {rs : Rows} (F : Wf rs) {n : Int} {c : Int} (hc : c ∈ repliesR rs n) (h : Alive rs c) : Alive rs n := by
  obtain ⟨m, r, hm, hs, h⟩ := h
  have ab := reply_above F hc
  refine ⟨m, r, hm, hs, .inr ?_⟩
  rcases h with rfl | h
  · rw [ab]
    exact List.mem_cons_self
  · exact above_trans F m.toNat (Nat.le_refl _) h (by rw [ab]; exact List.mem_cons_self)
theorem alive_child {rs : Rows} (F : Wf rs) {n : Int} {r : Row} (hr : findR rs n = some r) (hs : r.struck = true) (h : Alive rs n) : ∃ c ∈ repliesR rs n, Alive rs c := by
  obtain ⟨m, r', hm, hs', h⟩ := h
  rcases h with rfl | h
  · rw [hr] at hm
    cases hm
    rw [hs] at hs'
    cases hs'
  · obtain ⟨c, hc, h2⟩ := above_child F m.toNat (Nat.le_refl _) ⟨r', hm⟩ h
    exact ⟨c, hc, m, r', hm, hs', h2.elim (fun z => .inl z.symm) .inr⟩
theorem find_filter {rs : Rows} (nk : (rs.map (·.1)).Nodup) {c : Int × Row → Bool} {n : Int} {r : Row} (h : findR rs n = some r) (hc : c (n, r) = true) : findR (rs.filter c) n = some r :=
  findR_of (nk.sublist (List.filter_sublist.map _)) (List.mem_filter.mpr ⟨findR_mem h, hc⟩)
theorem prune_step {rs : Rows} (F : Wf rs) {done : List Int} {n : Int} {r : Row} (hr : findR rs n = some r) (hn : n ∉ done) (hd : ∀ p ∈ rs, p.1 > n → p.1 ∈ done) :
    prune1 (rs.filter fun p => !decide (p.1 ∈ done) || aliveB rs p.1) n = rs.filter fun p => !decide (p.1 ∈ n :: done) || aliveB rs p.1 := by
  have fr : findR (rs.filter fun p => !decide (p.1 ∈ done) || aliveB rs p.1) n = some r := find_filter F.nk hr (by simp [hn])
  have ra : rowAt (rs.filter fun p => !decide (p.1 ∈ done) || aliveB rs p.1) n = r := by unfold rowAt; rw [fr]; rfl
  have one : ∀ {p : Int × Row}, p ∈ rs → p.1 = n → p.2 = r := fun {p} hp e => by
    have := findR_of F.nk (n := p.1) (r := p.2) hp
    rw [e, hr] at this
    exact (Option.some.inj this).symm
  by_cases al : Alive rs n
  · -- it stays
    have stay : prune1 (rs.filter fun p => !decide (p.1 ∈ done) || aliveB rs p.1) n = rs.filter fun p => !decide (p.1 ∈ done) || aliveB rs p.1 := by
      unfold prune1
      rw [ra]
      refine if_neg fun h => ?_
      simp only [Bool.and_eq_true, decide_eq_true_eq] at h
      obtain ⟨c, hc, ac⟩ := alive_child F hr h.1 al
      obtain ⟨rc, h1, h2⟩ := mem_replies.mp hc
      have : c ∈ repliesR (rs.filter fun p => !decide (p.1 ∈ done) || aliveB rs p.1) n := mem_replies.mpr ⟨rc, List.mem_filter.mpr ⟨h1, by simp [aliveB, ac]⟩, h2⟩
      rw [h.2] at this
      cases this
    rw [stay]
    refine List.filter_congr fun p hp => ?_
    by_cases e : p.1 = n
    · simp [e, aliveB, al]
    · simp [e]
  · have nr : repliesR (rs.filter fun p => !decide (p.1 ∈ done) || aliveB rs p.1) n = [] := by
      refine List.eq_nil_iff_forall_not_mem.mpr fun c hc => ?_
      obtain ⟨rc, h1, h2⟩ := mem_replies.mp hc
      obtain ⟨h3, h4⟩ := List.mem_filter.mp h1
      have hc' : c ∈ repliesR rs n := mem_replies.mpr ⟨rc, h3, h2⟩
      have gt : c > n := by
        have := F.ult _ h3
        dsimp only at this
        omega
      have : c ∈ done := hd _ h3 gt
      have ac : Alive rs c := by simpa [this, aliveB] using h4
      exact al (alive_under F hc' ac)
    have st : r.struck = true := by
      cases q : r.struck with
      | true => rfl
      | false => exact absurd ⟨n, r, hr, q, .inl rfl⟩ al
    unfold prune1
    rw [ra, st, nr, if_pos (by simp)]
    unfold dropR
    rw [List.filter_filter]
    refine List.filter_congr fun p hp => ?_
    by_cases e : p.1 = n
    · simp [e, aliveB, al]
    · simp [e]
theorem pruned_eq {rs : Rows} (F : Wf rs) : prunedR rs = rs.filter fun p => aliveB rs p.1 := by
  have mem : ∀ n, n ∈ (nums rs).reverse ↔ ∃ r, (n, r) ∈ rs := fun n => List.mem_reverse.trans mem_nums
  have pw : ((nums rs).reverse).Pairwise (fun a b => b < a) := by
    have h1 : (nums rs).Pairwise (fun a b => a < b) := by
      have p1 : (nums rs).Pairwise (· ≤ ·) := sortI_le _
      have p2 : (nums rs).Pairwise (· ≠ ·) := nodup_nums F.nk
      refine (p1.and p2).imp fun {a b} h => ?_
      have h1 := h.1
      have h2 := h.2
      omega
    rw [List.pairwise_reverse]
    exact h1
  have go : ∀ (todo done : List Int), (∀ n, n ∈ done.reverse ++ todo ↔ ∃ r, (n, r) ∈ rs) → (done.reverse ++ todo).Pairwise (fun a b => b < a) →
      todo.foldl prune1 (rs.filter fun p => !decide (p.1 ∈ done) || aliveB rs p.1) = rs.filter fun p => aliveB rs p.1 := by
    intro todo
    induction todo with
    | nil =>
      intro done h _
      rw [List.foldl_nil]
      refine List.filter_congr fun p hp => ?_
      have : p.1 ∈ done := by
        have := (h p.1).mpr ⟨p.2, hp⟩
        simpa using this
      simp [this]
    | cons n t ih =>
      intro done h pw
      rw [List.foldl_cons]
      obtain ⟨r, hr⟩ := (h n).mp (List.mem_append_right _ List.mem_cons_self)
      have pa := List.pairwise_append.mp pw
      have hn : n ∉ done := fun z => by
        have := pa.2.2 n (List.mem_reverse.mpr z) n List.mem_cons_self
        omega
      have hd : ∀ p ∈ rs, p.1 > n → p.1 ∈ done := fun p hp hg => by
        rcases List.mem_append.mp ((h p.1).mpr ⟨p.2, hp⟩) with z | z
        · exact List.mem_reverse.mp z
        · rcases List.mem_cons.mp z with z | z
          · omega
          · have := (List.pairwise_cons.mp pa.2.1).1 _ z
            omega
      rw [prune_step F (findR_of F.nk hr) hn hd]
      refine ih (n :: done) (fun m => ?_) ?_
      · rw [← h m]
        simp
      · simpa using pw
  have := go (nums rs).reverse [] (fun n => by simpa using mem n) (by simpa using pw)
  unfold prunedR
  rw [← this]
  congr 1
  symm
  rw [List.filter_eq_self]
  intro p _
  simp
end Vw
namespace Vw
open PySem PySem.Spec PyProof.Rows L2
/-! ### woods whose struck ones have something under them -/
def Tidy (rs : Rows) : Prop := ∀ p ∈ rs, Alive rs p.1
theorem alive_up {rs : Rows} (F : Wf rs) {n m : Int} (h : Alive rs n) (hm : m ∈ aboveR rs n) : Alive rs m := by
  obtain ⟨x, r, hx, hs, h⟩ := h
  refine ⟨x, r, hx, hs, .inr ?_⟩
  rcases h with rfl | h
  · exact hm
  · exact above_trans F x.toNat (Nat.le_refl _) h hm
theorem tidy_gone : ∀ (k : Nat) (rs : Rows) (n : Int), n.toNat ≤ k → Wf rs → (∀ p ∈ rs, Alive rs p.1 ∨ p.1 = n ∨ p.1 ∈ aboveR rs n) → Tidy (goneR rs n).1
  | k, rs, n, hk, F, h => by
    rw [goneR]
    cases q : findR rs n with
    | none =>
      intro p hp
      rcases h p hp with z | z | z
      · exact z
      · exact absurd z (findR_none.mp q p hp)
      · obtain ⟨h1, h2, h3⟩ := above_lt F z
        have e0 : aboveR rs n = [] := by
          rw [aboveR]
          refine dif_neg fun hh => ?_
          have : upR rs n = 0 := by unfold upR; rw [q]; rfl
          have hz : aboveR rs n = [0] ∨ True := .inr trivial
          rw [aboveR, dif_pos hh, this, above_zero] at z
          have hz : p.1 = 0 := by simpa using z
          have := F.pos p hp
          omega
        rw [e0] at z
        cases z
    | some r =>
      dsimp only
      obtain ⟨u1, u2, u3, u4⟩ := F.up q
      have ab := F.above q
      split
      · rename_i hh
        cases k with
        | zero => omega
        | succ k =>
          refine tidy_gone k (dropR rs n) r.under (by omega) (F.drop hh.2.2.2.2) fun p hp => ?_
          obtain ⟨hp1, hp2⟩ := List.mem_filter.mp hp
          have hpn : p.1 ≠ n := by simpa using hp2
          have up : ∀ {m : Int}, (∃ r, findR rs m = some r) → m ≠ n → aboveR (dropR rs n) m = aboveR rs m := fun hm hn => above_drop F hh.2.2.2.2 hm hn
          rcases h p hp1 with z | z | z
          · obtain ⟨m, r', hm, hs, h2⟩ := z
            have mn : m ≠ n := fun e => by
              rw [e, q] at hm
              cases hm
              rw [hh.2.2.2.1] at hs
              cases hs
            exact .inl ⟨m, r', by rw [findR_drop, if_neg mn]; exact hm, hs, by rw [up ⟨r', hm⟩ mn]; exact h2⟩
          · exact absurd z hpn
          · right
            rw [ab] at z
            rcases List.mem_cons.mp z with z | z
            · exact .inl z
            · right
              rcases F.has _ (findR_mem q) with w | ⟨ru, w⟩
              · have w : r.under = 0 := w
                rw [w, above_zero] at z
                cases z
              · have w : findR rs r.under = some ru := w
                rw [up ⟨ru, w⟩ (by omega)]
                exact z
      · rename_i hh
        have al : Alive rs n := by
          cases c : r.struck with
          | false => exact ⟨n, r, q, c, .inl rfl⟩
          | true =>
            have : repliesR rs n ≠ [] := fun z => hh ⟨u2, u3, u4, c, z⟩
            obtain ⟨c, hc⟩ := List.exists_mem_of_ne_nil _ this
            obtain ⟨rc, h1, h2⟩ := mem_replies.mp hc
            have lt := F.ult _ h1
            dsimp only at lt
            rcases h _ h1 with z | z | z
            · exact alive_under F hc z
            · dsimp only at z; omega
            · have := (above_lt F z).2.1
              dsimp only at this
              omega
        intro p hp
        rcases h p hp with z | z | z
        · exact z
        · rw [z]; exact al
        · exact alive_up F al z
theorem tidy_set {rs : Rows} (F : Wf rs) {n : Int} {r r' : Row} (h : findR rs n = some r) (hu : r'.under = r.under) (hs : r'.struck = r.struck) (t : Tidy rs) : Tidy (setR rs n r') := by
  intro p hp
  have hk : ∃ r0, (p.1, r0) ∈ rs := by
    have : p.1 ∈ (setR rs n r').map (·.1) := List.mem_map.mpr ⟨p, hp, rfl⟩
    rw [setR_keys] at this
    exact mem_keys.mp this
  obtain ⟨r0, h0⟩ := hk
  obtain ⟨m, rm, hm, hs', h2⟩ := t _ h0
  by_cases e : m = n
  · subst e
    rw [h] at hm
    cases hm
    exact ⟨m, r', findR_set F.nk h, by rw [hs]; exact hs', by rw [above_set h hu]; exact h2⟩
  · exact ⟨m, rm, by rw [findR_setR, if_neg e]; exact hm, hs', by rw [above_set h hu]; exact h2⟩
theorem tidy_strike {rs : Rows} (F : Wf rs) {n : Int} {r : Row} (h : findR rs n = some r) (t : Tidy rs) : Tidy (goneR (setR rs n { r with struck := true }) n).1 := by
  refine tidy_gone n.toNat _ n (Nat.le_refl _) (F.set (r' := { r with struck := true }) h rfl) fun p hp => ?_
  have hk : ∃ r0, (p.1, r0) ∈ rs := by
    have : p.1 ∈ (setR rs n { r with struck := true }).map (·.1) := List.mem_map.mpr ⟨p, hp, rfl⟩
    rw [setR_keys] at this
    exact mem_keys.mp this
  obtain ⟨r0, h0⟩ := hk
  obtain ⟨m, rm, hm, hs', h2⟩ := t _ h0
  have ab : ∀ x, aboveR (setR rs n { r with struck := true }) x = aboveR rs x := fun x => above_set (r' := { r with struck := true }) h rfl x
  rw [ab n]
  by_cases e : m = n
  · subst e
    right
    exact h2.imp (fun z => z.symm) id
  · exact .inl ⟨m, rm, by rw [findR_setR, if_neg e]; exact hm, hs', by rw [ab m]; exact h2⟩
end Vw
namespace Vw
open PySem PySem.Spec PyProof.Rows L2
theorem above_app {rs : Rows} (F : Wf rs) {n : Int} {r : Row} (hn : ∀ p ∈ rs, p.1 ≠ n) {m : Int} (hm : ∃ r, findR rs m = some r) (h0 : n ≠ 0) : aboveR (rs ++ [(n, r)]) m = aboveR rs m := by
  refine above_congr m.toNat m (Nat.le_refl _) fun x hx => ?_
  have hx' : x = 0 ∨ ∃ r, findR rs x = some r := by
    rcases hx with rfl | hx
    · exact .inr hm
    · exact (above_lt F hx).2.2
  have ne : x ≠ n := fun z => by
    rcases hx' with w | ⟨r', w⟩
    · exact h0 (z.symm.trans w)
    · exact hn _ (findR_mem w) z
  unfold upR
  rw [findR_app hn, if_neg ne]
theorem tidy_app {rs : Rows} (F : Wf rs) {n : Int} {r : Row} (hn : ∀ p ∈ rs, p.1 ≠ n) (h0 : n ≠ 0) (hs : r.struck = false) (t : Tidy rs) : Tidy (rs ++ [(n, r)]) := by
  intro p hp
  rcases List.mem_append.mp hp with hp | hp
  · obtain ⟨m, rm, hm, hs', h2⟩ := t p hp
    have mn : m ≠ n := fun z => hn _ (findR_mem hm) z
    exact ⟨m, rm, by rw [findR_app hn, if_neg mn]; exact hm, hs', by rw [above_app F hn ⟨rm, hm⟩ h0]; exact h2⟩
  · cases List.mem_singleton.mp hp
    exact ⟨n, r, by rw [findR_app hn, if_pos rfl], hs, .inl rfl⟩
theorem own_find {M : Wd} {d b : PyData} {n : Int} {r : Row} (h : ownM M d b = .ok (n, r)) : findR M.rows n = some r ∧ r.struck = false := by
  unfold ownM at h
  cases q : sayingM M d with
  | none => rw [q] at h; cases h
  | some p =>
    obtain ⟨n', r'⟩ := p
    rw [q] at h
    dsimp only at h
    split at h
    · cases h
    · split at h
      · rename_i hh
        cases h
        refine ⟨?_, hh.2⟩
        unfold sayingM at q
        split at q
        · split at q
          · rename_i i _
            cases q2 : findR M.rows i with
            | none => rw [q2] at q; cases q
            | some r2 =>
              rw [q2] at q
              cases q
              exact q2
          · cases q
        · cases q
      · cases h
theorem tidy_say {M : Wd} (G : Good M) (hc : 0 ≤ M.came) {b u t : PyData} {k : Int} {M' : Wd} (h : sayM M b u t = .ok (k, M')) (td : Tidy M.rows) : Tidy M'.rows := by
  unfold sayM at h
  split at h
  · cases h
  · split at h
    · cases h
    · split at h
      · cases h
      · split at h
        · split at h
          · cases h
          · cases h
            exact tidy_app G.wf (fun p hp => by
              have := G.le p hp
              omega) (by omega) rfl td
        · cases h
theorem tidy_change {M : Wd} (G : Good M) {d b t : PyData} {M' : Wd} (h : changeM M d b t = .ok M') (td : Tidy M.rows) : Tidy M'.rows := by
  unfold changeM at h
  cases q : ownM M d b with
  | error e => rw [q] at h; cases h
  | ok p =>
    obtain ⟨n, r⟩ := p
    rw [q] at h
    dsimp only at h
    split at h
    · split at h
      · cases h
        exact tidy_set G.wf (own_find q).1 rfl rfl td
      · cases h
    · cases h
theorem tidy_strikeM {M : Wd} (G : Good M) {d b : PyData} {k : Int} {M' : Wd} (h : strikeM M d b = .ok (k, M')) (td : Tidy M.rows) : Tidy M'.rows := by
  unfold strikeM at h
  cases q : ownM M d b with
  | error e => rw [q] at h; cases h
  | ok p =>
    obtain ⟨n, r⟩ := p
    rw [q] at h
    cases h
    exact tidy_strike G.wf (own_find q).1 td
theorem say_find {M : Wd} {d : PyData} {n : Int} {r : Row} (q : sayingM M d = some (n, r)) : findR M.rows n = some r := by
  unfold sayingM at q
  split at q
  · split at q
    · rename_i i _
      cases q2 : findR M.rows i with
      | none => rw [q2] at q; cases q
      | some r2 =>
        rw [q2] at q
        cases q
        exact q2
    · cases q
  · cases q
theorem tidy_vote {M : Wd} (G : Good M) {d b y : PyData} {k : Int} {M' : Wd} (h : voteM M d b y = .ok (k, M')) (td : Tidy M.rows) : Tidy M'.rows := by
  unfold voteM at h
  cases q : sayingM M d with
  | none => rw [q] at h; cases h
  | some p =>
    obtain ⟨n, r⟩ := p
    rw [q] at h
    dsimp only at h
    split at h
    · cases h
    · split at h
      · cases h
      · split at h
        · split at h
          · cases h
          · cases h
            exact tidy_set G.wf (say_find q) rfl rfl td
        · cases h
theorem tidy_act {M : Wd} (G : Good M) (hc : 0 ≤ M.came) (d : Deed) (td : Tidy M.rows) : Tidy (actW M d).rows := by
  unfold actW
  cases e : actM M d with
  | error _ => exact td
  | ok p =>
    obtain ⟨v, M'⟩ := p
    show Tidy M'.rows
    cases d with
    | say n who text =>
      simp only [actM] at e
      cases q : sayM M (.str who) (.int n) (.str text) with
      | error _ => rw [q] at e; cases e
      | ok p =>
        rw [q] at e
        cases e
        exact tidy_say G hc q td
    | tick k _ =>
      cases e
      exact td
    | change n who text =>
      simp only [actM] at e
      cases q : changeM M (.int n) (.str who) (.str text) with
      | error _ => rw [q] at e; cases e
      | ok p =>
        rw [q] at e
        cases e
        exact tidy_change G q td
    | strike n who =>
      simp only [actM] at e
      cases q : strikeM M (.int n) (.str who) with
      | error _ => rw [q] at e; cases e
      | ok p =>
        rw [q] at e
        cases e
        exact tidy_strikeM G q td
    | vote n who way =>
      simp only [actM] at e
      cases q : voteM M (.int n) (.str who) (.int way) with
      | error _ => rw [q] at e; cases e
      | ok p =>
        rw [q] at e
        cases e
        exact tidy_vote G q td
end Vw
namespace Vw
open PySem PySem.Spec PyProof.Rows L2
/-! ### votes that are written alike -/
theorem sortS_congr {a b : List Str} (h : a.Perm b) : sortS a = sortS b := by
  have pw : ∀ l : List Str, (sortS l).Pairwise fun a b => leS a b = true := fun l => List.pairwise_mergeSort (le := leS) (fun a b c h1 h2 => leL_trans h1 h2) (fun a b => by
    rw [Bool.or_eq_true]
    exact leL_total _ _) l
  exact (((sortS_perm a).trans h).trans (sortS_perm b).symm).eq_of_pairwise (fun x y _ _ h1 h2 => leS_antisymm h1 h2) (pw a) (pw b)
theorem sortI_congr {a b : List Int} (h : a.Perm b) : sortI a = sortI b := sortI_eq ((sortI_perm a).trans h) (sortI_le a)
theorem votesT_congr {a b : List (Str × Int)} (h : (a.map (·.1)).Perm (b.map (·.1))) (hv : ∀ z ∈ a.map (·.1), voteOf a z = voteOf b z) : votesT a = votesT b := by
  have hl := h.length_eq
  rw [List.length_map, List.length_map] at hl
  unfold votesT
  by_cases c : a = []
  · have : b = [] := List.eq_nil_of_length_eq_zero (by rw [← hl, c]; rfl)
    rw [if_pos c, if_pos this]
  · have : ¬ b = [] := fun z => c (List.eq_nil_of_length_eq_zero (by rw [hl, z]; rfl))
    rw [if_neg c, if_neg this, sortS_congr h]
    congr 1
    refine List.map_congr_left fun z hz => ?_
    rw [hv z (h.mem_iff.mpr ((sortS_perm _).mem_iff.mp hz))]
theorem voteOf_no {vs : List (Str × Int)} {z : Str} (h : z ∉ vs.map (·.1)) : voteOf vs z = 0 := by
  unfold voteOf
  rw [List.find?_eq_none.mpr]
  · rfl
  · intro p hp
    simp only [decide_eq_true_eq]
    exact fun e => h (List.mem_map.mpr ⟨p, hp, e⟩)
theorem way_mem {b o t : List (Str × Int)} {z : Str} (h : wayOf b o t z ≠ 0) : z ∈ namesV b o t := by
  refine mem_namesIn.mpr ?_
  rw [List.mem_append, List.mem_append]
  refine Classical.byContradiction fun q => h ?_
  have q1 : z ∉ b.map (·.1) := fun x => q (.inl (.inl x))
  have q2 : z ∉ o.map (·.1) := fun x => q (.inl (.inr x))
  have q3 : z ∉ t.map (·.1) := fun x => q (.inr x)
  unfold wayOf
  rw [voteOf_no q1, voteOf_no q2, voteOf_no q3]
  rfl
theorem merged_names {b o t : List (Str × Int)} {z : Str} : z ∈ (mergedV b o t).map (·.1) ↔ wayOf b o t z ≠ 0 := by
  unfold mergedV
  constructor
  · intro h
    obtain ⟨p, hp, rfl⟩ := List.mem_map.mp h
    obtain ⟨x, hx, e⟩ := List.mem_filterMap.mp hp
    have e1 := wayP_key e
    unfold wayP at e
    split at e
    · rename_i h0
      rw [e1]
      exact h0
    · cases e
  · intro h
    refine List.mem_map.mpr ⟨(z, wayOf b o t z), List.mem_filterMap.mpr ⟨z, way_mem h, ?_⟩, rfl⟩
    unfold wayP
    rw [if_pos h]
theorem merged_nodup (b o t : List (Str × Int)) : ((mergedV b o t).map (·.1)).Nodup := way_nodup (nodup_namesIn _)
theorem merged_vote (b o t : List (Str × Int)) (z : Str) : voteOf (mergedV b o t) z = wayOf b o t z := by
  by_cases h : z ∈ (mergedV b o t).map (·.1)
  · have h1 := merged_names.mp h
    have : (z, wayOf b o t z) ∈ mergedV b o t := List.mem_filterMap.mpr ⟨z, way_mem h1, by unfold wayP; rw [if_pos h1]⟩
    exact voteOf_mem (merged_nodup b o t) this
  · rw [voteOf_no h]
    exact (Classical.byContradiction fun q => h (merged_names.mpr fun e => q e.symm))
theorem names_iff {vs : List (Str × Int)} (nd : (vs.map (·.1)).Nodup) (ok : ∀ v ∈ vs, v.2 = 1 ∨ v.2 = -1) {z : Str} : z ∈ vs.map (·.1) ↔ voteOf vs z ≠ 0 := by
  constructor
  · intro h
    obtain ⟨p, hp, rfl⟩ := List.mem_map.mp h
    rw [voteOf_mem nd hp]
    have := ok p hp
    omega
  · intro h
    exact Classical.byContradiction fun q => h (voteOf_no q)
/-- votes put together that come to one's votes -/
theorem votesT_merged {b o t v : List (Str × Int)} (nd : (v.map (·.1)).Nodup) (ok : ∀ x ∈ v, x.2 = 1 ∨ x.2 = -1) (h : ∀ z, wayOf b o t z = voteOf v z) : votesT (mergedV b o t) = votesT v := by
  refine votesT_congr ((List.perm_ext_iff_of_nodup (merged_nodup b o t) nd).mpr fun z => ?_) fun z _ => ?_
  · rw [merged_names, names_iff nd ok, h z]
  · rw [merged_vote, h z]
/-! ### rows that are written alike -/
structure LikeW (a b : Row) : Prop where
  who : b.who = a.who
  under : b.under = a.under
  time : b.time = a.time
  struck : b.struck = a.struck
  text : a.struck = false → b.text = a.text
  votes : votesT b.votes = votesT a.votes
theorem LikeW.refl (a : Row) : LikeW a a := ⟨rfl, rfl, rfl, rfl, fun _ => rfl, rfl⟩
theorem LikeW.rowT {a b : Row} (h : LikeW a b) (n : Int) : rowT n b = rowT n a := by
  unfold Vw.rowT
  rw [h.who, h.under, h.time, h.struck, h.votes]
  cases q : a.struck with
  | true => rfl
  | false => rw [h.text q]
/-- rows in which all of a wood is, and else struck ones alone -/
structure Cov (R O : Rows) : Prop where
  wr : Wf R
  wo : Wf O
  has : ∀ n r, findR O n = some r → ∃ r', findR R n = some r' ∧ LikeW r r'
  no : ∀ n r', findR R n = some r' → findR O n = none → r'.struck = true
theorem Cov.above {R O : Rows} (c : Cov R O) {n : Int} {r : Row} (h : findR O n = some r) : aboveR R n = aboveR O n := by
  refine above_congr n.toNat n (Nat.le_refl _) fun m hm => ?_
  have : m = 0 ∨ ∃ r, findR O m = some r := by
    rcases hm with rfl | hm
    · exact .inr ⟨r, h⟩
    · exact (above_lt c.wo hm).2.2
  rcases this with rfl | ⟨r1, h1⟩
  · unfold upR
    rw [c.wr.find0, c.wo.find0]
  · obtain ⟨r2, h2, l⟩ := c.has _ _ h1
    unfold upR
    rw [h1, h2]
    exact l.under
theorem Cov.alive {R O : Rows} (c : Cov R O) (t : Tidy O) {n : Int} (h0 : n ≠ 0) : Alive R n ↔ ∃ r, findR O n = some r := by
  constructor
  · rintro ⟨m, r, hm, hs, h⟩
    cases q : findR O m with
    | none =>
      have := c.no m r hm q
      rw [hs] at this
      cases this
    | some r1 =>
      rcases h with rfl | h
      · exact ⟨r1, q⟩
      · rw [c.above q] at h
        exact (above_lt c.wo h).2.2.resolve_left h0
  · rintro ⟨r, h⟩
    obtain ⟨m, r1, hm, hs, h⟩ := t (n, r) (findR_mem h)
    obtain ⟨r2, h2, l⟩ := c.has _ _ hm
    exact ⟨m, r2, h2, by rw [l.struck]; exact hs, by rw [c.above hm]; exact h⟩
theorem Cov.pruned {R O : Rows} (c : Cov R O) (t : Tidy O) : prunedR R = R.filter fun p => (findR O p.1).isSome := by
  rw [pruned_eq c.wr]
  refine List.filter_congr fun p hp => ?_
  have h0 : p.1 ≠ 0 := by
    have := c.wr.pos p hp
    omega
  have := c.alive t h0
  rw [← Option.isSome_iff_exists] at this
  unfold aliveB
  cases q : (findR O p.1).isSome with
  | true => exact @decide_eq_true _ (_) (this.mpr q)
  | false => exact @decide_eq_false _ (_) (fun z => by rw [this.mp z] at q; cases q)
theorem Cov.cov {R O : Rows} (c : Cov R O) (t : Tidy O) : Cov (prunedR R) O := by
  refine ⟨fold_wf c.wr, c.wo, fun n r h => ?_, fun n r' h h0 => ?_⟩
  · obtain ⟨r', h1, l⟩ := c.has n r h
    refine ⟨r', ?_, l⟩
    rw [c.pruned t]
    exact find_filter c.wr.nk h1 (by dsimp only; rw [h]; rfl)
  · have := findR_mem h
    rw [c.pruned t] at this
    have := (List.mem_filter.mp this).2
    dsimp only at this
    rw [h0] at this
    cases this
theorem Cov.keys {R O : Rows} (c : Cov R O) (t : Tidy O) : ((prunedR R).map (·.1)).Perm (O.map (·.1)) := by
  have c2 := c.cov t
  refine (List.perm_ext_iff_of_nodup c2.wr.nk c.wo.nk).mpr fun n => ?_
  rw [mem_keys, mem_keys]
  constructor
  · rintro ⟨r, hr⟩
    rw [c.pruned t] at hr
    have := (List.mem_filter.mp hr).2
    obtain ⟨r1, h1⟩ := Option.isSome_iff_exists.mp this
    exact ⟨r1, findR_mem h1⟩
  · rintro ⟨r, hr⟩
    obtain ⟨r', h1, _⟩ := c2.has n r (findR_of c.wo.nk hr)
    exact ⟨r', findR_mem h1⟩
theorem Cov.written {R O : Rows} (c : Cov R O) (t : Tidy O) (x y : Int) : writtenM ⟨prunedR R, x, y⟩ = writtenM ⟨O, x, y⟩ := by
  unfold writtenM
  dsimp only
  rw [sortI_congr (c.keys t)]
  congr 2
  refine List.map_congr_left fun n hn => ?_
  obtain ⟨r, hr⟩ := mem_keys.mp ((sortI_perm _).mem_iff.mp hn)
  have h1 := findR_of c.wo.nk hr
  obtain ⟨r', h2, l⟩ := (c.cov t).has n r h1
  unfold rowTN
  dsimp only
  rw [h1, h2]
  exact l.rowT n
theorem Cov.few {R : Rows} {M : Wd} (c : Cov R M.rows) (t : Tidy M.rows) (G : Good M) : tooMuch (prunedR R) = false := by
  have hl := (c.keys t).length_eq
  rw [List.length_map, List.length_map] at hl
  have := G.len
  unfold tooMuch
  rw [Bool.or_eq_false_iff]
  refine ⟨decide_eq_false (by omega), ?_⟩
  rw [List.any_eq_false]
  intro n hn
  have hn := (c.keys t).mem_iff.mp hn
  obtain ⟨r, hr⟩ := mem_keys.mp hn
  have d := G.dp _ hr
  have e := (c.cov t).above (findR_of c.wo.nk hr)
  have : ¬ 8 ≤ deepI (prunedR R) n := by
    unfold deepI
    rw [e]
    dsimp only at d
    omega
  simpa using this
end Vw
namespace Vw
open PySem PySem.Spec PyProof.Rows L2
/-! ### put together with the base -/
theorem mem_raw {B O T : Wd} {p : Int × Row} : p ∈ rawM B O T ↔ (∃ n ∈ nums B.rows, p = (n, mergedRow B.rows O.rows T.rows n (rowAt B.rows n))) ∨ (∃ n ∈ nums O.rows, n > B.came ∧ p = (n, rowAt O.rows n)) ∨
    (∃ n ∈ nums T.rows, n > B.came ∧ p = (movedN B O n, copyR (rowAt T.rows n) (movedN B O (rowAt T.rows n).under) (max (rowAt T.rows n).time O.clock))) := by
  unfold rawM part1 part2 part3
  rw [List.mem_append, List.mem_append, List.mem_map, List.mem_map, List.mem_map]
  constructor
  · rintro ((⟨n, h, rfl⟩ | ⟨n, h, rfl⟩) | ⟨n, h, rfl⟩)
    · exact .inl ⟨n, h, rfl⟩
    · obtain ⟨h1, h2⟩ := List.mem_filter.mp h
      exact .inr (.inl ⟨n, h1, by simpa using h2, rfl⟩)
    · obtain ⟨h1, h2⟩ := List.mem_filter.mp h
      exact .inr (.inr ⟨n, h1, by simpa using h2, rfl⟩)
  · rintro (⟨n, h, rfl⟩ | ⟨n, h, h2, rfl⟩ | ⟨n, h, h2, rfl⟩)
    · exact .inl (.inl ⟨n, h, rfl⟩)
    · exact .inl (.inr ⟨n, List.mem_filter.mpr ⟨h, by simpa using h2⟩, rfl⟩)
    · exact .inr ⟨n, List.mem_filter.mpr ⟨h, by simpa using h2⟩, rfl⟩
theorem rowAt_of {rs : Rows} {n : Int} {r : Row} (h : findR rs n = some r) : rowAt rs n = r := by
  unfold rowAt
  rw [h]
  rfl
theorem nums_find {rs : Rows} (nk : (rs.map (·.1)).Nodup) {n : Int} : n ∈ nums rs ↔ ∃ r, findR rs n = some r := by
  rw [mem_nums]
  exact ⟨fun ⟨r, h⟩ => ⟨r, findR_of nk h⟩, fun ⟨r, h⟩ => ⟨r, findR_mem h⟩⟩
theorem textIn_of {rs : Rows} {n : Int} {r : Row} (h : findR rs n = some r) : textIn rs n = r.told := by
  unfold textIn
  rw [h]
  rfl
theorem textIn_none {rs : Rows} {n : Int} (h : findR rs n = none) : textIn rs n = none := by
  unfold textIn
  rw [h]
  rfl
theorem told_none (r : Row) : r.told.isNone = r.struck := by
  unfold Row.told
  cases r.struck <;> rfl
theorem told_some {r : Row} (h : r.struck = false) : r.told = some r.text := by
  unfold Row.told
  rw [h]
  rfl
def VNd (M : Wd) : Prop := ∀ p ∈ M.rows, (p.2.votes.map (·.1)).Nodup
theorem WoodAt.vnd {K : PySem.W.Frag} {H : Hp} {L : Lay} (W : WoodAt K H L) : VNd L.wd := fun p hp => by
  obtain ⟨e, he, rfl⟩ := List.mem_map.mp hp
  exact (W.say e he).nd
structure KinP (B O : Wd) : Prop where
  gb : Good B
  go : Good O
  c0 : 0 ≤ B.came
  co : ComesOf B O
  nd : VNd O
  vo : VotesOk O
/-- one's row, put together with the base -/
theorem like_one {B O : Wd} (k : KinP B O) {n : Int} {r b : Row} (h : findR O.rows n = some r) (hb : findR B.rows n = some b) (h1 : b.who = r.who) (h2 : b.under = r.under) (h3 : b.time = r.time) (h4 : b.struck = true → r.struck = true) : LikeW r (mergedRow B.rows O.rows B.rows n b) ∧ LikeW r (mergedRow B.rows B.rows O.rows n b) := by
  have tO := textIn_of h
  have tB := textIn_of hb
  have m := findR_mem h
  have st : ∀ {x : Bool}, x = (r.struck || b.struck) → x = r.struck := fun {x} e => by
    rw [e]
    cases q : b.struck with
    | false => rw [Bool.or_false]
    | true => rw [h4 q]; rfl
  have s1 : strIn O.rows B.rows n = r.struck := st (by unfold strIn; rw [tO, tB, told_none, told_none])
  have s2 : strIn B.rows O.rows n = r.struck := st (by unfold strIn; rw [tO, tB, told_none, told_none, Bool.or_comm])
  refine ⟨⟨h1, h2, h3, s1, fun q => ?_, ?_⟩, ⟨h1, h2, h3, s2, fun q => ?_, ?_⟩⟩
  · show (if strIn O.rows B.rows n = true then Str.ofString "" else _) = _
    rw [s1, q, if_neg (by decide), tO, tB, told_some q]
    by_cases c : some r.text = b.told
    · rw [if_pos c, ← c]; rfl
    · rw [if_neg c]; rfl
  · show votesT (votesIn (findR O.rows n) (findR B.rows n) b.votes) = _
    rw [h, hb]
    refine votesT_merged (k.nd _ m) (k.vo _ m) fun z => ?_
    unfold wayOf
    by_cases c : voteOf r.votes z ≠ voteOf b.votes z
    · rw [if_pos c]
    · rw [if_neg c]
      exact (Classical.not_not.mp c).symm
  · show (if strIn B.rows O.rows n = true then Str.ofString "" else _) = _
    rw [s2, q, if_neg (by decide), if_pos rfl, tO, told_some q]
    rfl
  · show votesT (votesIn (findR B.rows n) (findR O.rows n) b.votes) = _
    rw [h, hb]
    refine votesT_merged (k.nd _ m) (k.vo _ m) fun z => ?_
    unfold wayOf
    rw [if_neg (by simp)]
theorem cov1 {B O : Wd} (k : KinP B O) : Cov (rawM B O B) O.rows := by
  have F := raw_wf k.gb k.go k.gb k.c0 k.co (ComesOf.refl k.gb)
  refine ⟨F, k.go.wf, fun n r h => ?_, fun n r' h h0 => ?_⟩
  · by_cases c : n > B.came
    · refine ⟨r, findR_of F.nk (mem_raw.mpr (.inr (.inl ⟨n, (nums_find k.go.wf.nk).mpr ⟨r, h⟩, c, ?_⟩))), LikeW.refl r⟩
      rw [rowAt_of h]
    · obtain ⟨b, hb, h1, h2, h3, h4⟩ := row_old k.co (findR_mem h) (by omega)
      refine ⟨mergedRow B.rows O.rows B.rows n b, findR_of F.nk (mem_raw.mpr (.inl ⟨n, (nums_find k.gb.wf.nk).mpr ⟨b, hb⟩, ?_⟩)), (like_one k h hb h1 h2 h3 h4).1⟩
      rw [rowAt_of hb]
  · rcases mem_raw.mp (findR_mem h) with ⟨m, hm, e⟩ | ⟨m, hm, hc, e⟩ | ⟨m, hm, hc, e⟩
    · cases e
      show strIn O.rows B.rows n = true
      unfold strIn
      rw [textIn_none h0]
      rfl
    · cases e
      obtain ⟨r, hr⟩ := (nums_find k.go.wf.nk).mp hm
      rw [h0] at hr
      cases hr
    · obtain ⟨r, hr⟩ := (nums_find k.gb.wf.nk).mp hm
      have := k.gb.le _ (findR_mem hr)
      dsimp only at this
      omega
theorem moved_self (B : Wd) (n : Int) : movedN B B n = n := by
  unfold movedN
  split
  · rfl
  · omega
theorem cov2 {B O : Wd} (k : KinP B O) : Cov (rawM B B O) O.rows := by
  have F := raw_wf k.gb k.gb k.go k.c0 (ComesOf.refl k.gb) k.co
  refine ⟨F, k.go.wf, fun n r h => ?_, fun n r' h h0 => ?_⟩
  · by_cases c : n > B.came
    · refine ⟨copyR r r.under (max r.time B.clock), findR_of F.nk (mem_raw.mpr (.inr (.inr ⟨n, (nums_find k.go.wf.nk).mpr ⟨r, h⟩, c, ?_⟩))), ?_⟩
      · rw [rowAt_of h, moved_self, moved_self]
      · have := k.co.r _ (findR_mem h)
        unfold rowOf at this
        rw [if_pos (show n > B.came from c)] at this
        have := of_decide_eq_true this
        dsimp only at this
        refine ⟨rfl, rfl, ?_, rfl, fun _ => rfl, rfl⟩
        show max r.time B.clock = r.time
        omega
    · obtain ⟨b, hb, h1, h2, h3, h4⟩ := row_old k.co (findR_mem h) (by omega)
      refine ⟨mergedRow B.rows B.rows O.rows n b, findR_of F.nk (mem_raw.mpr (.inl ⟨n, (nums_find k.gb.wf.nk).mpr ⟨b, hb⟩, ?_⟩)), (like_one k h hb h1 h2 h3 h4).2⟩
      rw [rowAt_of hb]
  · rcases mem_raw.mp (findR_mem h) with ⟨m, hm, e⟩ | ⟨m, hm, hc, e⟩ | ⟨m, hm, hc, e⟩
    · cases e
      show strIn B.rows O.rows n = true
      unfold strIn
      rw [textIn_none h0]
      exact Bool.or_true _
    · obtain ⟨r, hr⟩ := (nums_find k.gb.wf.nk).mp hm
      have := k.gb.le _ (findR_mem hr)
      dsimp only at this
      omega
    · rw [moved_self] at e
      cases e
      obtain ⟨r, hr⟩ := (nums_find k.go.wf.nk).mp hm
      rw [h0] at hr
      cases hr
theorem merged_one {B O : Wd} (k : KinP B O) (t : Tidy O.rows) : ∃ M, mergedM B O B = .ok M ∧ M.came = O.came ∧ M.clock = O.clock ∧ M.rows = prunedR (rawM B O B) ∧ writtenM M = writtenM O := by
  have c := cov1 k
  have h1 : comesB B O = true := comesB_iff.mpr k.co
  have h2 : comesB B B = true := comesB_iff.mpr (ComesOf.refl k.gb)
  refine ⟨⟨prunedR (rawM B O B), O.came + B.came - B.came, max O.clock B.clock⟩, ?_, by show O.came + B.came - B.came = O.came; omega, by have := k.co.k; show max O.clock B.clock = O.clock; omega, rfl, ?_⟩
  · unfold mergedM
    rw [if_neg (by rw [h1, h2]; simp), c.few t k.go]
    rfl
  · rw [show O.came + B.came - B.came = O.came by omega, show max O.clock B.clock = O.clock by have := k.co.k; omega]
    exact c.written t _ _
theorem merged_other {B O : Wd} (k : KinP B O) (t : Tidy O.rows) : ∃ M, mergedM B B O = .ok M ∧ M.came = O.came ∧ M.clock = O.clock ∧ M.rows = prunedR (rawM B B O) ∧ writtenM M = writtenM O := by
  have c := cov2 k
  have h1 : comesB B O = true := comesB_iff.mpr k.co
  have h2 : comesB B B = true := comesB_iff.mpr (ComesOf.refl k.gb)
  refine ⟨⟨prunedR (rawM B B O), B.came + O.came - B.came, max B.clock O.clock⟩, ?_, by show B.came + O.came - B.came = O.came; omega, by have := k.co.k; show max B.clock O.clock = O.clock; omega, rfl, ?_⟩
  · unfold mergedM
    rw [if_neg (by rw [h1, h2]; simp), c.few t k.go]
    rfl
  · rw [show B.came + O.came - B.came = O.came by omega, show max B.clock O.clock = O.clock by have := k.co.k; omega]
    exact c.written t _ _
end Vw
namespace Vw
open PySem PySem.Spec PyProof.Rows L2
local macro_rules | `(tactic| walk_at "rd") => `(tactic| simp only [tSeq, tNext, tIfS, tAsg, tRet, tRetN, tDrop, tVar, tC, tOp, tUn, tTest, tB, tAnd, tOr, tNot, tAndV, tOrV, tNotV, tIf, tChain, tCB, tCons, tNil, tCall, tMeth, tMake, tFld, sFld, tTup, tLst, tTupS, tLstS, tDNewKS, tDNewTS, tTold, tCmp, t2I, tIsN, tNotN, tPar, gName, gNil, gCons, gTup, gSub, rI0, rU, rEq, rNe, tDGet, tDIn, tDNotIn, sDPut, tDNewK, tDGet1, tDGet2, tDPop1, tDPop2, tBM, tBM0, tM0, tM1, tSl, tPart, tNoPart, tBreak, tCont, tThru, L2.start, List.map_cons, List.map_nil, List.length_cons, List.length_nil, List.cons_append, List.nil_append, List.append_nil, List.replicate_succ, List.replicate_zero, Nat.reduceAdd, Nat.reduceSub, Nat.zero_add, List.getElem?_cons_zero, List.getElem?_cons_succ, List.set_cons_zero, List.set_cons_succ, wipe, cxOf_K, tYes, List.cons.injEq, and_self, Option.some.injEq, V.int.injEq, V.bl.injEq, V.ref.injEq, V.str.injEq, exists_eq_left', exists_eq_left, exists_and_left, and_assoc, true_and, and_true, if_true, if_false, ite_true, ite_false, Bool.not_true, Bool.not_false, Bool.false_eq_true, reduceIte])
/-! ### clashes -/
def clashB (B O T : Rows) (n : Int) : Bool := !decide (textIn O n = textIn B n) && (!decide (textIn T n = textIn B n) && !decide (textIn O n = textIn T n))
def clashM (B O T : Wd) : List Int := (nums B.rows).filter (clashB B.rows O.rows T.rows)
theorem shaped_text {M : Wd} (h : RowsMg M.rows) (n : Int) : SeqAt.shaped (optD (textIn M.rows n)) = true := by
  unfold textIn
  cases q : findR M.rows n with
  | none => rfl
  | some r =>
    have := (h _ (findR_mem q)).1
    show SeqAt.shaped (optD r.told) = true
    unfold Row.told
    cases c : r.struck with
    | true => rfl
    | false => exact this c
section
variable {P : Program} {w : World} {K : PySem.W.Frag} {mg : Str → Option Value} {base : Heap}
structure ClOk (B O T' : Wd) : Prop where
  gb : Good B
  go : Good O
  gt : Good T'
  nb : NamesW B
  no : NamesW O
  nt : NamesW T'
  rb : RowsMg B.rows
  ro : RowsMg O.rows
  rt : RowsMg T'.rows
def spClashes (K : PySem.W.Frag) : Sp := fun vs H Q E => ∃ (B O T' : Lay), vs = [.ref B.p, .ref O.p, .ref T'.p] ∧ WoodAt K H B ∧ WoodAt K H O ∧ WoodAt K H T' ∧ ClOk B.wd O.wd T'.wd ∧
  (comesB B.wd O.wd = true → comesB B.wd T'.wd = true → ∀ p H', H p = none → Same H H' → H' p = some (.lst ((clashM B.wd O.wd T'.wd).map V.int)) → Q (.ref p) H') ∧ (comesB B.wd O.wd = false ∨ comesB B.wd T'.wd = false → ∀ H', Same H H' → Bad K E .kin H')
abbrev N_clashes : List Str := ["base", "one", "other", "found", "number", "texts", "wood"]
theorem sc_clashes : FnScope N_clashes ["base", "one", "other"] (defScope s_clashes) := ⟨rfl, rfl, rfl, by decide +kernel, rfl, by decide +kernel, by decide +kernel⟩
theorem be_clashes : BindEq "clashes" "clashes" s_clashes ["base", "one", "other"] := fun _ _ _ _ _ _ us hl => match us, hl with | [_, _, _], _ => rfl
theorem D_clashes (T : Txt K mg base) : Def P w K mg base 4 (He.ga K "clashes") ["base", "one", "other"] (spClashes K) := by
  refine mk_def T.f_clashes sc_clashes be_clashes (fun vs H Q E h => ?_) (fun cdv A outer s H vs Q E hr h => ?_)
  · obtain ⟨B, O, T', rfl, _⟩ := h
    rfl
  · obtain ⟨B, O, T', rfl, WB, WO, WT, ok, k1, k0⟩ := h
    refine ⟨_, (pss_cons (ps_expr (pe_cd (D_need_kin T) (by exact hr.mono (by first | decide | omega)) T.g_need_kin passE (pa_cons (pv 0) (pa_cons (pv 1) (pa_cons (pv 2) pa_nil)))))
      (pss_cons (ps_set (i := 3) sc_clashes.nd rfl (Or.inl rfl) (pe_lstS pa_nil))
      (pss_cons (ps_for ownE rfl (pi_list (pe_md0 (pv 0) T.c_Wood.c T.m_Wood_numbers (D_Wood_numbers T) (by exact hr.mono (by first | decide | omega)) passE)) (pg_name (i := 4) sc_clashes.nd rfl (Or.inr rfl))
      (pss_cons (ps_setLc (i := 5) (own := [("wood", 6)]) (g := gName 6) rfl sc_clashes.nd rfl rfl (sw_true rfl rfl rfl (by decide +kernel)) (pi_tup (pe_tupS (pa_cons (pv 0) (pa_cons (pv 1) (pa_cons (pv 2) pa_nil))))) (blkOk_by (N := N_clashes) (sc := defScope s_clashes) (by decide +kernel)) (fun _ _ _ _ _ => by exact (pg_name (i := 6) sc_clashes.nd rfl (Or.inl rfl))) (fun _ _ _ _ _ => pts_nil) (fun _ _ _ _ _ => by exact (pe_cd (D_text_of T) (by exact hr.mono (by first | decide | omega)) T.g_text_of passF (pa_cons (pv 6) (pa_cons (pv 4) pa_nil)))))
      (pss_one (ps_if (PW.pt (pw_and (pt_ned (pe_ix ix_list (pv 5) pe_int (fun _ _ => rfl)) (pe_ix ix_list (pv 5) pe_int (fun _ _ => rfl)) (by exact hr.units)) (pw_and (pt_ned (pe_ix ix_list (pv 5) pe_int (fun _ _ => rfl)) (pe_ix ix_list (pv 5) pe_int (fun _ _ => rfl)) (by exact hr.units)) (pw_and1 (pt_ned (pe_ix ix_list (pv 5) pe_int (fun _ _ => rfl)) (pe_ix ix_list (pv 5) pe_int (fun _ _ => rfl)) (by exact hr.units)))))) (pss_one (ps_expr (pe_bm PySem.F.plainAttrs_list PySem.F.slot_list_append PySem.F.type_list_append mt_append (pv 3) (pa_cons (pv 4) pa_nil)))) pss_nil))))
      (pss_one (ps_ret (pv 3)))))), ?_⟩
    walk_at "rd"
    have z9 : (1000 : Nat) < sizeLine := by rw [sizeLine_eq]; omega
    refine ⟨B, O, T', rfl, WB, WO, WT, ok.go, ok.gt, ok.nb, ok.no, ok.nt, fun c1 c2 H1 s1 => ?_, fun c H1 s1 => k0 c H1 s1⟩
    have k1 := k1 c1 c2
    refine ⟨Nat.zero_le _, fun fp H2 nfp s2 e2 => ?_⟩
    have s02 := s1.trans s2
    have nofw : ∀ {L : Lay} {m : String}, m ≠ "sayings" → m ≠ "came" → m ≠ "clock" → (woodFs L.d L.came L.clock).lookup (Str.ofString m) = none := fun h1 h2 h3 => fw_no _ _ _ h1 h2 h3
    have WB2 := WB.same s02
    refine forL2 (l := nums B.rows) V.int (fun R h => ?_) (fun q i σ' H' => SqL K H' q ((nums B.rows).map V.int) ∧ WoodAt K H' B ∧ WoodAt K H' O ∧ WoodAt K H' T' ∧ H' fp = some (.lst ((((nums B.rows).take i).filter (clashB B.rows O.rows T'.rows)).map V.int)) ∧ (∀ b o, H b = some o → H' b = some o) ∧ ∃ y4 y5 y6 : Option V, σ' = [some (.ref B.p), some (.ref O.p), some (.ref T'.p), some (.ref fp), y4, y5, y6])
      (fun q H3 s3 hq => ?_) (fun q i σ' H' _ h => h.1) (fun q i n σ' H3 D' hi h3 nx ct rt _ => ?_) (fun q σ' H3 h3 => ?_)
    · walk_at "rd"
      exact ⟨_, _, WB2.top, nofw (by decide) (by decide) (by decide), use_numbers WB2 ok.gb fun p H3 n3 s3 e3 => h p H3 s3 (SqL.of e3)⟩
    · have s03 := s02.trans s3
      exact ⟨hq, WB.same s03, WO.same s03, WT.same s03, s3 _ _ e2, fun b o e => s03 b o e, _, _, _, rfl⟩
    · obtain ⟨hq, WB3, WO3, WT3, e3, s03, y4, y5, y6, rfl⟩ := h3
      walk_at "rd"
      have ln : (nums B.rows).length ≤ 60 := by
        unfold nums
        rw [sortI_length, List.length_map]
        exact ok.gb.len
      refine lcTp (l := [B, O, T']) (fun L : Lay => .ref L.p) (fun L : Lay => some (optV (textIn L.rows n))) (fun R h => ?_) (by show 3 < _; omega) (fun L H4 hL s4 N1 N0 h1 h0 => ?_) (fun D H4 nD s4 eD => ?_)
      · walk_at "rd"
        exact ⟨by omega, fun p4 H4 n4 s4 e4 => h p4 H4 s4 (.inl (.inl e4))⟩
      · have hL : L = B ∨ L = O ∨ L = T' := by simpa using hL
        have WL : WoodAt K H4 L := by
          rcases hL with rfl | rfl | rfl
          · exact WB3.same s4
          · exact WO3.same s4
          · exact WT3.same s4
        walk_at "rd"
        exact ⟨L, n, rfl, WL, h1 _ _ (Same.refl _) rfl⟩
      · have eD : H4 D = some (.lst [optV (textIn B.rows n), optV (textIn O.rows n), optV (textIn T'.rows n)]) := eD
        have tk : (nums B.rows).take (i + 1) = (nums B.rows).take i ++ [n] := by rw [List.take_add_one, hi]; rfl
        have Df : D ≠ fp := fun z => by rw [z, e3] at nD; cases nD
        have e4 := s4 _ _ e3
        have no : ∀ {y5 y6 : Option V}, clashB B.rows O.rows T'.rows n = false → D'.nx [some (.ref B.p), some (.ref O.p), some (.ref T'.p), some (.ref fp), some (.int n), y5, y6] H4 := fun {y5 y6} hc =>
          nx _ _ ⟨s4.seq hq, WB3.same s4, WO3.same s4, WT3.same s4, by rw [tk, List.filter_append, List.filter_cons, hc]; simpa using e4, fun b o e => s4 b o (s03 b o e), _, _, _, rfl⟩
        have yes : ∀ {y5 y6 : Option V}, clashB B.rows O.rows T'.rows n = true → D'.nx [some (.ref B.p), some (.ref O.p), some (.ref T'.p), some (.ref fp), some (.int n), y5, y6] (upd H4 fp (.lst ((((nums B.rows).take i).filter (clashB B.rows O.rows T'.rows)).map V.int ++ [V.int n]))) := fun {y5 y6} hc => by
          have kp : ∀ b o, H b = some o → upd H4 fp (.lst ((((nums B.rows).take i).filter (clashB B.rows O.rows T'.rows)).map V.int ++ [V.int n])) b = some o := fun b o e => by
            rw [upd_ne (ne_of_none e (s1.free nfp))]
            exact s4 b o (s03 b o e)
          have wk : ∀ {L : Lay}, WoodAt K H3 L → WoodAt K (upd H4 fp (.lst ((((nums B.rows).take i).filter (clashB B.rows O.rows T'.rows)).map V.int ++ [V.int n]))) L := fun {L} W => (W.same s4).wk fun b o e p => by
            rw [upd_ne (fun z => by rw [z, e4] at e; cases e; exact not_lst _ p)]
            exact e
          refine nx _ _ ⟨?_, wk WB3, wk WO3, wk WT3, ?_, kp, _, _, _, rfl⟩
          · have il : i < (nums B.rows).length := (List.getElem?_eq_some_iff.mp hi).1
            rcases s4.seq hq with (h | ⟨o, h⟩) | h
            · refine .inl (.inl ?_)
              rw [upd_ne (fun z => ?_)]
              · exact h
              · rw [z, e4] at h
                have h1 := congrArg List.length (HO.lst.inj (Option.some.inj h))
                rw [List.length_map, List.length_map] at h1
                have h2 := List.length_filter_le (clashB B.rows O.rows T'.rows) ((nums B.rows).take i)
                rw [List.length_take] at h2
                omega
            · refine .inl (.inr ⟨o, ?_⟩)
              rw [upd_ne (fun z => by rw [z, e4] at h; cases h)]
              exact h
            · exact .inr h
          · rw [upd_same, tk, List.filter_append, List.filter_cons, hc]
            simp
        have sB := shaped_text ok.rb n
        have sO := shaped_text ok.ro n
        have sT := shaped_text ok.rt n
        have il : i < (nums B.rows).length := (List.getElem?_eq_some_iff.mp hi).1
        refine ⟨D, _, 1, optV (textIn O.rows n), rfl, rfl, SqL.of eD, rfl, D, _, 0, optV (textIn B.rows n), rfl, rfl, SqL.of eD, rfl, use_neD (dp_opt _) (dp_opt _) sO sB ⟨_, rfl, ?_⟩⟩
        rw [eqv_opt]
        by_cases c1 : textIn O.rows n = textIn B.rows n
        · rw [decide_eq_true c1]
          exact iteF (no (by unfold clashB; rw [decide_eq_true c1]; rfl))
        · rw [decide_eq_false c1]
          refine iteT ⟨D, _, 2, optV (textIn T'.rows n), rfl, rfl, SqL.of eD, rfl, D, _, 0, optV (textIn B.rows n), rfl, rfl, SqL.of eD, rfl, use_neD (dp_opt _) (dp_opt _) sT sB ⟨_, rfl, ?_⟩⟩
          rw [eqv_opt]
          by_cases c2 : textIn T'.rows n = textIn B.rows n
          · rw [decide_eq_true c2]
            exact iteF (no (by unfold clashB; rw [decide_eq_true c2]; simp))
          · rw [decide_eq_false c2]
            refine iteT ⟨D, _, 1, optV (textIn O.rows n), rfl, rfl, SqL.of eD, rfl, D, _, 2, optV (textIn T'.rows n), rfl, rfl, SqL.of eD, rfl, use_neD (dp_opt _) (dp_opt _) sO sT ⟨_, rfl, ?_⟩⟩
            rw [eqv_opt]
            by_cases c3 : textIn O.rows n = textIn T'.rows n
            · rw [decide_eq_true c3]
              exact iteF (no (by unfold clashB; rw [decide_eq_true c3]; simp))
            · rw [decide_eq_false c3]
              refine iteT ⟨.inl ⟨rfl, _, SqL.of e4⟩, fp, _, _, rfl, rfl, e4, ?_, yes (by unfold clashB; rw [decide_eq_false c1, decide_eq_false c2, decide_eq_false c3]; rfl)⟩
              rw [List.length_map]
              have h2 := List.length_filter_le (clashB B.rows O.rows T'.rows) ((nums B.rows).take i)
              rw [List.length_take] at h2
              omega
    · obtain ⟨hq, WB3, WO3, WT3, e3, s03, y4, y5, y6, rfl⟩ := h3
      walk_at "rd"
      rw [List.take_of_length_le (Nat.le_refl _)] at e3
      exact k1 fp H3 (s1.free nfp) s03 e3
end
end Vw
namespace Vw
open PySem PySem.Spec PyProof.Rows L2
/-- behind a written text among the arguments, what wants a token may stand -/
theorem pa_strT {X : Cx} {c : Str} {j : Nat} {cpos : Pos} {es : List Expr} {t : TA} (h : PAT X es t) (hs : starEach (.Constant (.str c) j cpos :: es) X.env = (false, eval (.Constant (.str c) j cpos) X.env) :: starEach es X.env := by rfl) :
    PA X (.Constant (.str c) j cpos :: es) (tCons (tC (.str c)) t) := by
  refine ⟨fun pos pins s σ H Q I q => ?_⟩
  rw [hs]
  show wpAny _ _ (spliced ((false, eval (.Constant (.str c) j cpos) X.env) :: backTo pos (starEach es X.env))) _ _ s
  refine Calls.spliced_cons (Calls.Constant_str ?_)
  exact thn (h pos pins { s with toks := s.toks + 1 } σ H _ (Nat.le_add_left 1 s.toks) (I.tok _) q) fun us s2 ⟨xs, H2, I2, r2, q2⟩ => ⟨.str c :: xs, H2, I2, .cons ⟨s.toks, rfl⟩ r2, q2⟩
end Vw
namespace Vw
open PySem PySem.Spec PyProof.Rows L2
/-! ### x not in a tuple whose items are data of any depth -/
def rNotInT (K : PySem.W.Frag) : R2 := fun x y H Q => ∃ d ds, Dp K H x d ∧ Dp K H y (.tuple ds) ∧ SeqAt.shaped d = true ∧ SeqAt.shaped (.tuple ds) = true ∧ d.depth ≤ 8 ∧ Q (.bl (!ds.any fun z => PyData.eqv z d)) H
theorem op_notInT {X : Cx} (hu : X.A.units + 64 < cLine) : OpR X (compareOp .NotIn) (rNotInT X.K) := by
  intro pins s σ H x y v u Q I rx ry h
  obtain ⟨d, ds, hd, he, sd, se, dd, q⟩ := h
  obtain ⟨as, r1⟩ := Dp.reads I d x v hd rx
  obtain ⟨bs, r2⟩ := Dp.reads I (.tuple ds) y u he ry
  exact SeqAt.notIn_tuple_reads r2 r1 (SeqAt.canLay_of_shaped se) (SeqAt.canLay_of_shaped sd) (by omega) ⟨.bl _, H, I, rfl, q⟩
end Vw
namespace Vw
open PySem PySem.Spec PyProof.Rows L2
/-! ### x.replace(y, z, 1), and where a token is out -/
def rep1 (x y z : Str) : Str :=
  if ((Builtin.Str.occurrences x y 0 x.length 1).isEmpty || (y.length == 0 && z.length == 0)) = true then x
  else Builtin.Str.glued z (Builtin.Str.partsBetween x (Builtin.Str.occurrences x y 0 x.length 1) y.length)
open Builtin Builtin.Str in
theorem gives_rep1 (x y z : Str) (t u v w : Tok)
    (hf : ((occurrences x y 0 x.length 1).isEmpty || (y.length == 0 && z.length == 0)) = false → (u == 0 || v == 0) = false ∧ (u == v) = false ∧ (y == z) = false ∧ tooLong (x.length + (occurrences x y 0 x.length 1).length * z.length) = false) :
    Gives («str.replace» ⟨[.str x t, .str y u, .str z v, .int 1 w], []⟩) (if ((occurrences x y 0 x.length 1).isEmpty || (y.length == 0 && z.length == 0)) = true then .val (.str x t) else .str (glued z (partsBetween x (occurrences x y 0 x.length 1) y.length))) := by
  show Gives (if ((occurrences x y 0 x.length 1).isEmpty || (y.length == 0 && z.length == 0)) = true then (do rule "str.replace.nothing"; ret (.str x t)) else
    (do let one ← isSame (.str y u) (.str z v)
        if one = true then (do rule "str.replace.old-is-new"; ret (.str x t)) else
          if tooLong (x.length + (occurrences x y 0 x.length 1).length * z.length) = true then unsupported "str.replace:memory" else retStr (glued z (partsBetween x (occurrences x y 0 x.length 1) y.length)))) _
  cases c : ((occurrences x y 0 x.length 1).isEmpty || (y.length == 0 && z.length == 0)) with
  | true => exact .rule (.of_eq rfl)
  | false =>
    obtain ⟨a, b, d, e⟩ := hf c
    rw [isSame_str_other y z u v a b d, e]
    exact .of_eq rfl
theorem kept_tok {α : Type} {P : Program} {w : World} {A : Around} {m : Sem α} {Q : α → Shared → Prop} {E : Value → Shared → Prop} {s : Shared} (hn : 1 ≤ s.toks) (h : wpAny (model P w) A m Q E s) : wpAny (model P w) A m (fun a s' => 1 ≤ s'.toks ∧ Q a s') E s :=
  wpAny_mono (PySem.wpAny_toks_of hn h) (fun _ _ q => q) fun _ _ q => q.2
def tRep1 (to : TE) (y z : Str) : TE := fun σ H Q => to σ H fun v H1 => ∃ x, v = .str x ∧ x.length + (Builtin.Str.occurrences x y 0 x.length 1).length * z.length ≤ 100000 ∧ (rep1 x y z).length ≤ 100000 ∧ Q (.str (rep1 x y z)) H1
section
variable {X : Cx} {o e f tg iter elt : Expr} {te tf : TE} {to : TE} {y z c : Str} {j k l : Nat} {c0 c1 c2 apos pos p p' : Pos} {es : List Expr} {ta : TA}
theorem pet_rep1 (ho : PE X o to) (hyz : (y == z) = false := by decide)
    (hst : starEach [.Constant (.str y) j c0, .Constant (.str z) k c1, .Constant (.int 1) l c2] X.env = [(false, eval (.Constant (.str y) j c0) X.env), (false, eval (.Constant (.str z) k c1) X.env), (false, eval (.Constant (.int 1) l c2) X.env)] := by rfl)
    (hbase : attributeBase o "replace" X.env (eval o X.env) = eval o X.env := by rfl) (hline : (apos.endLine == pos.line) = true := by rfl) :
    PET X (.Call (.Attribute o "replace" apos) [.Constant (.str y) j c0, .Constant (.str z) k c1, .Constant (.int 1) l c2] [] pos) (tRep1 to y z) := by
  intro pins s σ H Q h0 I h
  refine wpAny_Call_method_lateS hbase (by rw [hst]; rfl) hline ?_
  rw [hst]
  show wpAny _ _ _ (fun ov s₁ => MethodOnS X.prog X.w X.A X.xe "replace" ov pos [(false, eval (.Constant (.str y) j c0) X.env), (false, eval (.Constant (.str z) k c1) X.env), (false, eval (.Constant (.int 1) l c2) X.env)] _ s₁) _ _
  refine wpAny_mono (kept_tok h0 (ho.run pins s σ H _ I h)) (fun v s1 q => ?_) fun _ _ z => z
  obtain ⟨hk, v', H1, I1, r1, x, e1, hb, hr, q⟩ := q
  subst e1
  obtain ⟨tx, e2⟩ := r1
  subst e2
  have sz : (100000 : Nat) < sizeLine := by rw [sizeLine_eq]; omega
  refine ⟨"str", _, PySem.F.plainAttrs_str, PySem.F.slot_str_replace, PySem.F.type_str_replace, typeIs_str _ _ _, (fun _ e => nomatch e), Calls.callWith_builtin rfl (Calls.evalArgs_plain (Calls.spliced_cons ?_))⟩
  refine Calls.Constant_str (Calls.spliced_cons (Calls.Constant_str (Calls.spliced_cons (wpAny_Constant_int (Calls.spliced_nil ?_)))))
  refine call_gives F.slot_str_replace (typeIs_str _ _ _) F.entry_str_replace (F.args_str_replace_4 _ _ _ _) (gives_rep1 x y z tx s1.toks (s1.toks + 1) (s1.toks + 1 + 1) fun _ => ⟨?_, ?_, hyz, ?_⟩) ?_
  · have h1 : s1.toks ≠ 0 := by omega
    simp [h1]
  · simp
  · show decide (_ > sizeLine) = false
    exact decide_eq_false (by omega)
  · unfold rep1 at hr q
    cases c : ((Builtin.Str.occurrences x y 0 x.length 1).isEmpty || (y.length == 0 && z.length == 0)) with
    | true =>
      rw [c] at q
      simp only [if_true] at q ⊢
      exact ⟨.str x, H1, I1.tok _, ⟨tx, rfl⟩, q⟩
    | false =>
      rw [c] at q hr
      simp only [Bool.false_eq_true, if_false] at q hr ⊢
      exact ⟨Nat.le_of_lt (Nat.lt_of_le_of_lt hr sz), .str (Builtin.Str.glued z (Builtin.Str.partsBetween x (Builtin.Str.occurrences x y 0 x.length 1) y.length)), H1, I1.tok _, ⟨_, rfl⟩, q⟩
/-- an expression behind which a token is out -/
def PEK (X : Cx) (e : Expr) (t : TE) : Prop :=
  ∀ (pins : List (Addr × Obj)) (s : Shared) (σ : L2.St) (H : Hp) (Q : VK), Inv X pins σ H s → t σ H Q → wpAny (model X.prog X.w) X.A (eval e X.env) (fun v s' => 1 ≤ s'.toks ∧ EP X pins σ Q v s') X.xe s
theorem pek_op {op : Operator} {r : R2} (ho : OpR X (binaryOp op) r) (hb : PE X f tf) : PEK X (.BinOp (.Constant (.str c) j c0) op f pos) (tOp r (tC (.str c)) tf) := by
  intro pins s σ H Q I h
  refine wpAny_BinOp (Calls.Constant_str ?_)
  refine wpAny_mono (kept_tok (s := { s with toks := s.toks + 1 }) (Nat.le_add_left 1 s.toks) (hb.run pins _ σ H _ (I.tok _) h)) (fun u s2 q => ?_) fun _ _ z => z
  obtain ⟨hk, y, H2, I2, r2, q2⟩ := q
  exact kept_tok hk (ho pins s2 σ H2 (.str c) y _ u Q I2 ⟨_, rfl⟩ r2 q2)
theorem pek_split (ho : PE X o to) (hs : starEach [.Constant (.str c) j c0] X.env = [(false, eval (.Constant (.str c) j c0) X.env)] := by rfl) (hbase : attributeBase o "split" X.env (eval o X.env) = eval o X.env := by rfl) (hline : (apos.endLine == pos.line) = true := by rfl) :
    PEK X (.Call (.Attribute o "split" apos) [.Constant (.str c) j c0] [] pos) (tM1 (fun x xs H Q => ∃ a b, x = .str a ∧ xs = [.str b] ∧ (b.length == 0) = false ∧ a.length + 2 ≤ sizeLine ∧ rNewStrs (Txt.split a b) H Q) to (tC (.str c))) := by
  intro pins s σ H Q I h
  refine PySem.Call_method1 hbase hs hline (wpAny_mono (ho.run pins s σ H _ I h) (fun v s1 h1 => ?_) fun _ _ z => z)
  obtain ⟨x, H1, I1, r1, ⟨a, rfl⟩, q1⟩ := h1
  obtain ⟨t, rfl⟩ := _root_.id r1
  refine ⟨"str", _, F.plainAttrs_str, F.slot_str_split, F.type_str_split, typeIs_str _ _ _, (fun _ e => nomatch e), Calls.callWith_builtin rfl (Calls.evalArgs_plain (Calls.spliced_cons (Calls.Constant_str (Calls.spliced_nil ?_))))⟩
  exact kept_tok (s := { s1 with toks := s1.toks + 1 }) (Nat.le_add_left 1 s1.toks) (mt_split pins _ σ H1 _ [.str c] _ [_] Q (I1.tok _) r1 (.cons ⟨s1.toks, rfl⟩ .nil) q1)
/-- name = such an expression: behind it a token is out -/
theorem pss_asgK {i : Nat} {x : Str} {pos' : Pos} {rest : List Stmt} {u : TS} (hN : X.N.Nodup) (hi : X.N[i]? = some x) (hx : Loc X.env.scope x) (he : PEK X e te) (h2 : PSsT X rest u) (hs : swapsWith e (some (.Name x pos')) pos.line X.env = pure false := by rfl)
    (hf : X.fn x = true ∨ X.env.scope.names.lookup x = some .local := by first | exact .inl rfl | exact .inr rfl | assumption) : PSs X (.Assign [.Name x pos'] e pos :: rest) (tSeq (tAsg te (gName i)) u) := by
  refine ⟨fun pins s σ H D I h => ?_⟩
  refine wpAny_execs_cons (wpAny_Assign_Name (wpAny_mono (he pins s σ H _ I h) (fun v s1 h1 => ?_) fun _ _ z => z) hs)
  obtain ⟨hk, y, H1, I1, r1, q1⟩ := h1
  refine wpAny_mono (kept_tok hk (store_ok (v := y) (u := v) (Q := fun _ s2 => Inv X pins (σ.set i (some y)) H1 s2) I1 hN hi hx r1 (fun _ I2 => I2) hf)) (fun _ s2 q => ?_) fun _ _ z => z
  exact h2 pins s2 _ H1 D q.1 q.2 q1
theorem pe_joinT (he : PET X e te) (hs : starEach [e] X.env = [(false, eval e X.env)] := by rfl) (hbase : attributeBase (.Constant (.str c) j c0) "join" X.env (eval (.Constant (.str c) j c0) X.env) = eval (.Constant (.str c) j c0) X.env := by rfl) (hline : (apos.endLine == pos.line) = true := by rfl) :
    PE X (.Call (.Attribute (.Constant (.str c) j c0) "join" apos) [e] [] pos) (tM1 (fun x xs H Q => ∃ a p, ∃ ys : List Str, x = .str a ∧ xs = [.ref p] ∧ (SqL X.K H p (ys.map V.str) ∨ SqT X.K H p (ys.map V.str)) ∧
      (ys.map (·.length)).sum + ys.length * a.length ≤ 16777216 ∧ Q (.str (Txt.join a ys)) H) (tC (.str c)) te) := by
  refine ⟨fun pins s σ H Q I h => ?_⟩
  refine PySem.Call_method1 hbase hs hline (Calls.Constant_str ?_)
  obtain ⟨_, h⟩ := h
  refine ⟨"str", _, F.plainAttrs_str, F.slot_str_join, F.type_str_join, typeIs_str _ _ _, (fun _ e => nomatch e), Calls.callWith_builtin rfl (Calls.evalArgs_plain (Calls.spliced_cons ?_))⟩
  refine wpAny_mono (he pins { s with toks := s.toks + 1 } σ H _ (Nat.le_add_left 1 s.toks) (I.tok _) h) (fun u s2 h2 => ?_) fun _ _ z => z
  obtain ⟨y, H2, I2, r2, q2⟩ := h2
  exact Calls.spliced_nil (mt_join pins s2 σ H2 (.str c) [y] _ [u] Q I2 ⟨s.toks, rfl⟩ (.cons r2 .nil) q2)
theorem pst_expr (he : PET X e te) (hs : swapsWith e none pos.line X.env = pure false := by rfl) : PST X (.Expr e pos) (tDrop te) := by
  intro pins s σ H D h0 I h
  refine wpAny_Expr_any (wpAny_mono (he pins s σ H _ h0 I h) (fun v s1 h1 => ?_) fun _ _ z => z) I.quiet hs
  obtain ⟨x, H1, I1, r1, q1⟩ := h1
  exact ⟨σ, H1, I1, q1⟩
theorem pet_bm {T : String} {id : String} {name : Str} {cpos : Pos} {r : V → List V → Hp → VK → Prop} (pa : PlainAttrs T) (slot : Slot T name id) (hty : typeOf (.builtin id) = pure (.type "method_descriptor")) (hm : MtR X id r) (ho : PE X o to) (ha : PAT X (e :: es) ta)
    (hbase : attributeBase o name X.env (eval o X.env) = eval o X.env := by rfl)
    (hfew : ((backTo cpos (starEach (e :: es) X.env)).all (fun x => !x.1) && (backToKw cpos (keywordEach [] X.env)).all (fun x => x.1.isSome)
      && decide ((e :: es).length + ([] : List Keyword).length + (if ([] : List Keyword).isEmpty then 0 else 1) < 30)) = true := by rfl)
    (hline : (apos.endLine == cpos.line) = true := by rfl) (hs : starEach (e :: es) X.env = (false, eval e X.env) :: starEach es X.env := by rfl) (hplain : (backTo cpos (starEach es X.env)).any (·.1) = false := by rfl) :
    PET X (.Call (.Attribute o name apos) (e :: es) [] cpos) (tBM X.K T r to ta) := by
  intro pins s σ H Q h0 I h
  refine wpAny_Call_method_late hbase hfew hline rfl (wpAny_mono (kept_tok h0 (ho.run pins s σ H _ I h)) (fun v s1 h1 => ?_) fun _ _ z => z)
  obtain ⟨hk, x, H1, I1, r1, ty, q1⟩ := h1
  obtain ⟨t1, t2⟩ := tyV_is I1 r1 ty
  refine ⟨T, id, pa, slot, hty, t1, t2, ?_⟩
  have hA := ha cpos pins s1 σ H1 _ hk I1 q1
  rw [hs] at hA ⊢
  refine Calls.callWith_builtin (by show (false || (backTo cpos (starEach es X.env)).any (·.1)) = false; rw [hplain] <;> rfl) (Calls.evalArgs_plain ?_)
  refine wpAny_mono hA (fun us s2 h2 => ?_) fun _ _ z => z
  obtain ⟨vs, H2, I2, r2, q2⟩ := h2
  exact hm pins s2 σ H2 x vs v us Q I2 r1 r2 q2
theorem pet_opL {op : Operator} {r : R2} (ho : OpR X (binaryOp op) r) (ha : PET X e te) (hb : PE X f tf) : PET X (.BinOp e op f pos) (tOp r te tf) := by
  intro pins s σ H Q h0 I h
  refine wpAny_BinOp (wpAny_mono (ha pins s σ H _ h0 I h) (fun v s1 h1 => ?_) fun _ _ z => z)
  obtain ⟨x, H1, I1, r1, q1⟩ := h1
  refine wpAny_mono (hb.run pins s1 σ H1 _ I1 q1) (fun u s2 h2 => ?_) fun _ _ z => z
  obtain ⟨y, H2, I2, r2, q2⟩ := h2
  exact ho pins s2 σ H2 x y v u Q I2 r1 r2 q2
theorem pst_set {i : Nat} {x : Str} {pos' : Pos} (hN : X.N.Nodup) (hi : X.N[i]? = some x) (hx : Loc X.env.scope x) (he : PET X e te) (hs : swapsWith e (some (.Name x pos')) pos.line X.env = pure false := by rfl)
    (hf : X.fn x = true ∨ X.env.scope.names.lookup x = some .local := by first | exact .inl rfl | exact .inr rfl | assumption) : PST X (.Assign [.Name x pos'] e pos) (tAsg te (gName i)) := by
  intro pins s σ H D h0 I h
  refine wpAny_Assign_Name (wpAny_mono (he pins s σ H _ h0 I h) (fun v s1 h1 => ?_) fun _ _ z => z) hs
  obtain ⟨y, H1, I1, r1, q1⟩ := h1
  exact store_ok I1 hN hi hx r1 (fun s2 I2 => ⟨_, H1, I2, q1⟩) hf
theorem pet_cd {n : Nat} {g : Addr} {ps : List Str} {sp : Sp} {E : XK} {x : Str} (D : Def X.prog X.w X.K X.mg X.base n g ps sp) (hr : Room n X.A) (hm : X.mg x = some (.ref g)) (hx : Passes (L2N.CX X.prog X.w) X E) (ha : PAT X (e :: es) ta)
    (hg : Gl X x := by rfl) (hdb : (x == ("__debug__" : Str)) = false := by decide) (he : starEach (e :: es) X.env = (false, eval e X.env) :: starEach es X.env := by rfl)
    (hpl : (backTo pos (starEach es X.env)).any (·.1) = false := by rfl) : PET X (.Call (.Name x p) (e :: es) [] pos) (tCall sp [] E ta) := by
  obtain ⟨⟨fd, F, b⟩, kp⟩ := D
  intro pins s σ H Q h0 I h
  refine wpAny_Call_Name_kw (ld_glob I hg hm ?_ hdb)
  refine PySem.W.callWith_K (h₀ := X.base) I.ok.mod.kin kp (wpAny_mono (ha pos pins s σ H _ h0 I h) (fun us s1 h1 => ?_) fun _ _ z => z) he hpl
  obtain ⟨vs, H1, I1, r, q⟩ := h1
  exact ⟨I1.kIn, run_fn F hr b .nil hx I1 r q⟩
end
/-- [elt for target in iter], the element wants a token -/
theorem pet_lc {X : Cx} {elt tg iter : Expr} {ifs : List Expr} {scope : Scope} {own : List (Str × Nat)} {pos : Pos} {wi : TI} {g : TG} {tt : TT} {te : TE} (calm : X.calm = true) (nd : X.N.Nodup) (hi : PI X tg iter wi) (ok : BlkOk X.N X.env.scope scope own)
    (pg : ∀ (s : Shared) (H : Hp) (C : Addr) (cl : List (Str × Addr)) (fp : List Addr), PG (X.blk s H scope (compEnvC scope cl C X.env) fp) tg g)
    (pt : ∀ (s : Shared) (H : Hp) (C : Addr) (cl : List (Str × Addr)) (fp : List Addr), PTs (X.blk s H scope (compEnvC scope cl C X.env) fp) ifs tt)
    (pe : ∀ (s : Shared) (H : Hp) (C : Addr) (cl : List (Str × Addr)) (fp : List Addr), PET (X.blk s H scope (compEnvC scope cl C X.env) fp) elt te)
    (plain : ∀ x, foldedSetIterable iter X.env x = pure x := by intro _; rfl) :
    PET X (.ListComp elt [⟨tg, iter, ifs, 0⟩] scope pos) (tLc wi g tt te (own.map (·.2))) := by
  intro pins s σ H Q tk0 I h
  rw [eval_ListComp]
  have caught : ∀ y ∈ scope.names, y.2 = .free → ∃ c, X.env.cells.lookup y.1 = some c := fun y hy e => I.ok.has _ (ok.free y hy e)
  refine comprehension_at (use := none) rfl plain (closure_ok caught) ok.kind (fun y hy e => (ok.uniq y hy).trans (by rw [e])) ?_
  refine wpAny_mono (kept_tok tk0 (hi.run pins s σ H _ I h)) (fun _ s1 h1 => wpAny_mono (kept_tok h1.1 h1.2) (fun _ s2 h2 => ?_) fun _ _ z => z) fun _ _ z => z
  obtain ⟨tk2, it, fp, at_, J, H2, rfl, I2, turns, at0, fpo, q⟩ := h2
  refine wpAny_newObj_type (newEnv_comp ?_) (Nat.zero_le _)
  generalize eD : s2.heap.objs.size = D
  obtain ⟨W, ⟨m0, w0⟩, turn⟩ := q D (I2.hok.fresh (Nat.le_of_eq eD))
  generalize e3 : ({ s2 with heap := s2.heap.push { cls := .type "list", data := .seq ([] : List Value).toArray } } : Shared) = s3
  have tk3 : 1 ≤ s3.toks := by
    rw [← e3]
    exact tk2
  have hp3 : s3.heap = s2.heap.push { cls := .type "list", data := .seq ([] : List Value).toArray } := by rw [← e3]
  have I3 : Inv X pins σ (upd H2 D (.lst [])) s3 := by
    subst e3
    exact I2.laid (t' := s2.toks) (fun _ _ e => Heap.get?_push_of_some _ e) (Nat.le_of_eq eD) ⟨Nat.zero_le _, [], 0, .nil, eD ▸ Heap.get?_push_size _ rfl⟩
  have small : ∀ b ∈ fp, b < s2.heap.objs.size := fun b hb => let ⟨_, e, _⟩ := turns.obj _ _ at0 b hb; Heap.lt_size e
  have fp3 : ∀ b ∈ fp, FpOk X pins (upd H2 D (.lst [])) b ∧ b < s3.heap.objs.size := fun b hb => by
    refine ⟨⟨?_, (fpo b hb).2⟩, ?_⟩
    · rw [upd_ne (fun z => Nat.lt_irrefl _ (by have := small b hb; rw [z, ← eD] at this; exact this))]
      exact (fpo b hb).1
    · rw [hp3, Heap.size_push]
      exact Nat.lt_succ_of_lt (small b hb)
  have at3 : at_ 0 s3.heap := turns.keep _ _ _ at0 fun b _ o e => by rw [hp3]; exact Heap.get?_push_of_some _ e
  have I4 := block_start I3 ok nd fp3
  have free3 : ∀ b ∈ fp, upd H2 D (.lst []) b = none := fun b hb => (fp3 b hb).1.1
  generalize eH : upd H2 D (.lst []) = H3 at I3 I4 w0 free3 fp3
  generalize eC : s3.heap.objs.size = C at I4
  generalize ecl : cellsFrom (C + 1) scope.names (cloFrom X.env.cells scope.names []) = cl at I4
  have pg := pg s3 H3 C cl fp
  have pt := pt s3 H3 C cl fp
  have pe := pe s3 H3 C cl fp
  show codeAny _ _ (.compStart (.ListComp elt [⟨tg, iter, ifs, 0⟩] scope pos) 0 (.ref it) (.ref D) (compEnvC scope cl C X.env)) (compEnds (model X.prog X.w) X.A X.xe none (EP X pins σ Q) (.ref D) (compEnvC scope cl C X.env)) { s3 with heap := pushCells (s3.heap.push { cls := .type "dict", data := .dict #[] }) scope.names }
  generalize e4 : ({ s3 with heap := pushCells (s3.heap.push { cls := .type "dict", data := .dict #[] }) scope.names } : Shared) = s4 at I4 ⊢
  have tk4 : 1 ≤ s4.toks := by
    rw [← e4]
    exact tk3
  have at4 : at_ 0 s4.heap := turns.keep _ _ _ at3 fun b _ o e => by
    rw [← e4]
    exact pushCells_keeps _ _ _ _ (Heap.get?_push_of_some _ e)
  have fpB : ∀ {σ' : L2.St} {H' : Hp} {s' : Shared}, Inv (X.blk s3 H3 scope (compEnvC scope cl C X.env) fp) [] σ' H' s' → (∀ b ∈ fp, H' b = none) → ∀ b ∈ fp, FpOk (X.blk s3 H3 scope (compEnvC scope cl C X.env) fp) [] H' b := fun {σ' H' s'} I' n b hb =>
    ⟨n b hb, (I'.ok.exf b hb).1, I'.ok.exfs b hb, .inl hb, (I'.ok.exf b hb).2, fun p hp => by
      have hp : p ∈ ([] : List (Addr × Obj)) := by simpa using hp
      cases hp⟩
  have loop : codeAny (model X.prog X.w) X.A (.compLoop (.ListComp elt [⟨tg, iter, ifs, 0⟩] scope pos) 0 (.ref it) (.ref D) (compEnvC scope cl C X.env)) (compEnds (model X.prog X.w) X.A X.xe none (EP X pins σ Q) (.ref D) (compEnvC scope cl C X.env)) s4 := by
    refine compLoop_any (fun n s' => ∃ i H', 1 ≤ s'.toks ∧ Inv (X.blk s3 H3 scope (compEnvC scope cl C X.env) fp) [] (wipe σ (own.map (·.2))) H' s' ∧ at_ i s'.heap ∧ (∀ b ∈ fp, H' b = none) ∧ W i n H') ?_ m0 ⟨0, H3, tk4, I4, at4, free3, w0⟩
    rintro n s5 ⟨i, H5, tk5, I5, at5, n5, w5⟩
    rcases turn i n H5 w5 with ⟨stop, qq⟩ | ⟨go, Nx, less, step⟩
    · refine never_ (turns.done (X.blk s3 H3 scope (compEnvC scope cl C X.env) fp) rfl rfl rfl calm i [] s5 _ H5 (fun _ _ => False) I5 (fpB I5 n5) at5 stop) fun r s6 h6 => ?_
      obtain ⟨rfl, I6⟩ := h6
      have I7 : Inv X pins σ H5 s6 := I3.call' (ch := fp) I6.os I6.base I6.hok I6.bare fun b hb => ⟨(fp3 b hb).1.2.2.2.1, (fp3 b hb).1.2.1, (fp3 b hb).1.2.2.2.2.1, (fp3 b hb).1.2.2.2.2.2⟩
      have nC : H5 C = none := I6.free
      obtain ⟨m, hn, _⟩ := I6.loc
      obtain ⟨g0, g1, g2, g3, g4, g5⟩ := I3.fpOk (H' := H5) (b := C) (Nat.le_of_eq eC) nC
      exact ⟨m, hn, fun h' sb => ⟨.ref D, H5, I7.turned (t' := s6.toks) (fun b o hb e => (sb.2 b hb).trans e) g0 g1 g3 g4 g5, rfl, qq⟩⟩
    · refine never_ (kept_tok tk5 (turns.item (X.blk s3 H3 scope (compEnvC scope cl C X.env) fp) rfl rfl rfl calm i [] s5 _ H5 (fun _ _ => False) I5 (fpB I5 n5) at5 go)) fun r s6 h6 => ?_
      obtain ⟨tk6, u, rfl, h6⟩ := h6
      refine never_ (kept_tok tk6 h6) fun _ s7 h7 => ?_
      obtain ⟨tk7, x, H7, I7, r7, y7, at7, n7⟩ := h7
      have P7 := I7.pinned (fpB I7 n7) (turns.obj _ _ at7)
      refine never_ (kept_tok tk7 (pg.run _ s7 _ H7 x u _ P7 r7 (step x H7 y7))) fun _ s8 h8 => ?_
      obtain ⟨tk8, σ8, H8, I8, same8, q8⟩ := h8
      refine never_ (kept_tok tk8 (pt.run _ s8 σ8 H8 _ I8 q8)) fun yes s9 h9 => ?_
      obtain ⟨tk9, H9, I9, q9⟩ := h9
      have close : ∀ {s' : Shared} {H' : Hp}, 1 ≤ s'.toks → Inv (X.blk s3 H3 scope (compEnvC scope cl C X.env) fp) ([] ++ pinsAt fp s7.heap) σ8 H' s' → Nx H' →
          ∃ m, m < n ∧ ∃ i H', 1 ≤ s'.toks ∧ Inv (X.blk s3 H3 scope (compEnvC scope cl C X.env) fp) [] (wipe σ (own.map (·.2))) H' s' ∧ at_ i s'.heap ∧ (∀ b ∈ fp, H' b = none) ∧ W i m H' := fun {s' H'} tk' I' nx => by
        obtain ⟨m', lt, w'⟩ := less H' nx
        have stay : ∀ b ∈ fp, ∀ o, s7.heap.get? b = some o → s'.heap.get? b = some o ∧ H' b = none := fun b hb o e => by
          have := I'.pin (b, o) (List.mem_append_right _ (List.mem_append_right _ (mem_pinsAt hb e)))
          exact ⟨this.1, this.2.1⟩
        refine ⟨m', lt, i + 1, H', tk', (I'.unpinned (pins := [])).weak (by rw [← same8, wipe_length]) (fun j v e => ?_), turns.keep _ _ _ at7 fun b hb o e => (stay b hb o e).1, fun b hb => ?_, w'⟩
        · rw [← same8] at e
          exact (wipe_some e).1
        · obtain ⟨o, e, _⟩ := turns.obj _ _ at7 b hb
          exact (stay b hb o e).2
      cases yes with
      | false =>
        simp only [Bool.false_eq_true, if_false] at q9 ⊢
        exact close tk9 I9 q9
      | true =>
        simp only [if_true] at q9 ⊢
        refine never_ (kept_tok tk9 (pe _ s9 σ8 H9 _ tk9 I9 q9)) fun v s10 h10 => ?_
        obtain ⟨tk10, y, H10, I10, r10, acc, hD, hz, nx⟩ := h10
        refine wpAny_mono (kept_tok tk10 (app_ok (X := X.blk s3 H3 scope (compEnvC scope cl C X.env) fp) (Q := fun _ s11 => Inv (X.blk s3 H3 scope (compEnvC scope cl C X.env) fp) _ σ8 _ s11) I10 hD hz r10 fun s11 I11 => I11)) (fun _ s11 h11 => close h11.1 h11.2 nx) fun _ _ z => z
  exact codeAny_compStart_list loop (turns.self X.A 0 _ _ _ at4 loop)
end Vw
namespace Vw
open PySem PySem.Spec PyProof.Rows L2
/-! ### k73's texts -/
def sufK (b : Bool) : Str := if b then Str.ofString "x" else Str.ofString ""
def tK (b : Bool) : Str := Str.ofString "9 5\n1 0 9 ann . a\n2 1 9 dd +ann b\n3 1 9 cy .\n5 3 9 ann . e" ++ sufK b
def gK (b : Bool) : Str := Str.ofString "9 6\n1 0 9 ann . c\n2 1 9 dd +ann b\n3 1 9 cy .\n5 3 9 ann . e" ++ sufK b ++ Str.ofString "\n6 0 9 zz . new"
def badK (b : Bool) : List Str := [
  Str.ofString "8 5\n1 0 8 ann . a\n2 1 8 dd +ann b\n3 1 8 cy .\n5 3 8 ann . e" ++ sufK b,
  Str.ofString "9 2\n1 0 9 ann . a\n2 1 9 dd +ann b",
  Str.ofString "9 5\n1 0 9 bob . a\n2 1 9 dd +ann b\n3 1 9 cy .\n5 3 9 ann . e" ++ sufK b,
  Str.ofString "9 5\n1 0 9 ann . a\n2 0 9 dd +ann b\n3 1 9 cy .\n5 3 9 ann . e" ++ sufK b,
  Str.ofString "9 5\n1 0 8 ann . a\n2 1 9 dd +ann b\n3 1 9 cy .\n5 3 9 ann . e" ++ sufK b,
  Str.ofString "9 5\n1 0 9 ann . a\n2 1 9 dd +ann b\n3 1 9 cy .\n4 0 9 zz . back\n5 3 9 ann . e" ++ sufK b,
  Str.ofString "9 5\n1 0 9 ann . a\n2 1 9 dd +ann b\n3 1 9 cy . again\n5 3 9 ann . e" ++ sufK b]
def wdOf (z : Str) : Wd := match readC z with
  | .ok M => M
  | .error _ => ⟨[], 0, 0⟩
theorem wd_read {z : Str} (h : isOkE (readC z) = true) : readM z = .ok (wdOf z) := by
  rw [readC_eq]
  unfold wdOf
  cases q : readC z with
  | ok M => rfl
  | error e => rw [q] at h; cases h
def goodT (z : Str) : Bool := isOkE (readC z) && decide (z.length ≤ 300) && decide ((wdOf z).came ≤ 100) && decide ((wdOf z).rows.length ≤ 20) && PyData.strOk z && (decide ((wdOf z).clock ≤ 100) && (wdOf z).rows.all fun p => decide (p.2.votes.length ≤ 100))
def tidyC (rs : Rows) : Bool := rs.all fun p => !p.2.struck || rs.any fun q => decide (q.2.under = p.1) && !q.2.struck
theorem tidy_of {rs : Rows} (F : Wf rs) (h : tidyC rs = true) : Tidy rs := fun p hp => by
  have := List.all_eq_true.mp h p hp
  rw [Bool.or_eq_true] at this
  rcases this with c | c
  · exact ⟨p.1, p.2, findR_of F.nk hp, by simpa using c, .inl rfl⟩
  · obtain ⟨q, hq, c⟩ := List.any_eq_true.mp c
    rw [Bool.and_eq_true] at c
    refine ⟨q.1, q.2, findR_of F.nk hq, by simpa using c.2, .inr ?_⟩
    rw [F.above (findR_of F.nk hq), of_decide_eq_true c.1]
    exact List.mem_cons_self
theorem t_ok : ∀ b, goodT (tK b) = true := by decide +kernel
theorem g_ok : ∀ b, goodT (gK b) = true := by decide +kernel
theorem bad_ok : ∀ b, (badK b).all (fun z => goodT z && !comesB (wdOf (tK b)) (wdOf z)) = true := by decide +kernel
theorem tg_kin : ∀ b, comesB (wdOf (tK b)) (wdOf (gK b)) = true := by decide +kernel
theorem gt_kin : ∀ b, comesB (wdOf (gK b)) (wdOf (tK b)) = false := by decide +kernel
theorem tt_kin : ∀ b, comesB (wdOf (tK b)) (wdOf (tK b)) = true := by decide +kernel
theorem g_tidy : ∀ b, tidyC (wdOf (gK b)).rows = true := by decide +kernel
theorem clash_self (B O : Wd) : clashM B O B = [] := by
  unfold clashM
  refine List.filter_eq_nil_iff.mpr fun n _ => ?_
  unfold clashB
  simp
theorem raw_sum (B O T : Wd) : (rawM B O T).length ≤ B.rows.length + O.rows.length + T.rows.length := by
  have h1 : ∀ rs : Rows, (nums rs).length = rs.length := fun rs => by
    unfold nums
    rw [sortI_length, List.length_map]
  unfold rawM part1 part2 part3
  rw [List.length_append, List.length_append, List.length_map, List.length_map, List.length_map, h1]
  have h2 := List.length_filter_le (fun n => decide (n > B.came)) (nums O.rows)
  have h3 := List.length_filter_le (fun n => decide (n > B.came)) (nums T.rows)
  rw [h1] at h2 h3
  omega
/-- a wood that was read from one of these texts -/
structure Rdd (z : Str) : Prop where
  r : readM z = .ok (wdOf z)
  l : z.length ≤ 300
  s : SmallT z
  c : (wdOf z).came ≤ 100
  n : (wdOf z).rows.length ≤ 20
  k : PyData.strOk z = true
  t : (wdOf z).clock ≤ 100
  v : ∀ p ∈ (wdOf z).rows, p.2.votes.length ≤ 100
theorem rdd {z : Str} (h : goodT z = true) : Rdd z := by
  unfold goodT at h
  simp only [Bool.and_eq_true] at h
  obtain ⟨⟨⟨⟨⟨h1, h2⟩, h3⟩, h4⟩, h5⟩, h6, h7⟩ := h
  exact ⟨wd_read h1, of_decide_eq_true h2, smallT_few (Nat.le_trans (of_decide_eq_true h2) (by decide)), of_decide_eq_true h3, of_decide_eq_true h4, h5, of_decide_eq_true h6, fun p hp => of_decide_eq_true (List.all_eq_true.mp h7 p hp)⟩
theorem Rdd.fine {z : Str} (h : Rdd z) (F : Fd (wdOf z)) : Fine (wdOf z) 100 := by
  have hc := h.c
  have hk := F.k
  have ht := h.t
  refine ⟨F.good (Nat.le_trans h.n (by decide)), F.c.1, fun p hp v hv => ((F.r p hp).2.2.2.2.2.2.1 v hv).2, fun p hp => ⟨(F.r p hp).2.2.1, (F.r p hp).2.2.2.2.1, (F.wr.r p hp).2.2.2.2.1⟩, h.v, by omega, hk.1, by omega, fun p hp => ⟨(F.r p hp).1, (F.r p hp).2.1⟩, fun p hp v hv => ((F.r p hp).2.2.2.2.2.2.1 v hv).1⟩
theorem Rdd.rmg {z : Str} (F : Fd (wdOf z)) : RowsMg (wdOf z).rows := fun p hp => ⟨fun hs => by
  have := str_text ((F.r p hp).2.2.2.2.1 hs)
  simp [SeqAt.shaped, PyData.canLay0, PyData.depth, this], Nat.le_trans (F.r p hp).2.2.2.2.2.1 (by decide)⟩
theorem mg_rdd {x y z : Str} (hx : Rdd x) (hy : Rdd y) (hz : Rdd z) (Fx : Fd (wdOf x)) (Fy : Fd (wdOf y)) (Fz : Fd (wdOf z)) : MgOk (wdOf x) (wdOf y) (wdOf z) := by
  have fx := hx.fine Fx
  have fy := hy.fine Fy
  have fz := hz.fine Fz
  exact ⟨fx.G, fy.G, fz.G, fx.nw, fy.nw, fz.nw, Rdd.rmg Fx, Rdd.rmg Fy, Rdd.rmg Fz, Nat.lt_of_le_of_lt (raw_sum _ _ _) (by have := hx.n; have := hy.n; have := hz.n; omega), fun c1 c2 => raw_wf fx.G fy.G fz.G fx.c0 (comesB_iff.mp c1) (comesB_iff.mp c2)⟩
theorem cl_rdd {x y z : Str} (hx : Rdd x) (hy : Rdd y) (hz : Rdd z) (Fx : Fd (wdOf x)) (Fy : Fd (wdOf y)) (Fz : Fd (wdOf z)) : ClOk (wdOf x) (wdOf y) (wdOf z) := by
  have m := mg_rdd hx hy hz Fx Fy Fz
  exact ⟨m.gb, m.go, m.gt, m.nb, m.no, m.nt, m.rb, m.ro, m.rt⟩
end Vw
namespace Vw
open PySem PySem.Spec PyProof.Rows L2
local macro_rules | `(tactic| walk_at "rd") => `(tactic| simp only [tSeq, tNext, tIfS, tAsg, tRet, tRetN, tDrop, tVar, tC, tOp, tUn, tTest, tB, tAnd, tOr, tNot, tAndV, tOrV, tNotV, tIf, tChain, tCB, tCons, tNil, tCall, tMeth, tMake, tFld, sFld, tTup, tLst, tTupS, tLstS, tDNewKS, tDNewTS, tTold, tCmp, t2I, tIsN, tNotN, tPar, gName, gNil, gCons, gTup, gSub, rI0, rU, rEq, rNe, tDGet, tDIn, tDNotIn, sDPut, tDNewK, tDGet1, tDGet2, tDPop1, tDPop2, tBM, tBM0, tM0, tM1, tSl, tPart, tNoPart, tBreak, tCont, tThru, L2.start, List.map_cons, List.map_nil, List.length_cons, List.length_nil, List.cons_append, List.nil_append, List.append_nil, List.replicate_succ, List.replicate_zero, Nat.reduceAdd, Nat.reduceSub, Nat.zero_add, List.getElem?_cons_zero, List.getElem?_cons_succ, List.set_cons_zero, List.set_cons_succ, wipe, cxOf_K, tYes, List.cons.injEq, and_self, Option.some.injEq, V.int.injEq, V.bl.injEq, V.ref.injEq, V.str.injEq, exists_eq_left', exists_eq_left, exists_and_left, and_assoc, true_and, and_true, if_true, if_false, ite_true, ite_false, Bool.not_true, Bool.not_false, Bool.false_eq_true, reduceIte])
/-! ### what the law writes -/
def rK (b : Bool) : List Str := [Str.ofString "9 5", Str.ofString "1 0 9 ann . a", Str.ofString "2 1 9 dd +ann b", Str.ofString "3 1 9 cy .", Str.ofString "5 3 9 ann . e" ++ sufK b]
theorem split_t : ∀ b, Txt.split (tK b) (Str.ofString "\n") = rK b := by decide +kernel
theorem split_h : Txt.split (Str.ofString "9 5") (Str.ofString " ") = [Str.ofString "9", Str.ofString "5"] := by decide +kernel
theorem int_9 : PySem.intText? (Str.ofString "9") = some 9 := by decide +kernel
theorem bad_0 : ∀ b, Txt.join (Str.ofString "\n") ((Str.ofString "8 5") :: ((rK b).drop 1).map fun r => rep1 r (Str.ofString " 9 ") (Str.ofString " 8 ")) = (badK b).getD 0 (Str.ofString "") := by decide +kernel
theorem bad_1 : ∀ b, Txt.join (Str.ofString "\n") ((Str.ofString "9 2") :: ((rK b).take 3).drop 1) = (badK b).getD 1 (Str.ofString "") := by decide +kernel
theorem bad_2 : ∀ b, rep1 (tK b) (Str.ofString " ann") (Str.ofString " bob") = (badK b).getD 2 (Str.ofString "") := by decide +kernel
theorem bad_3 : ∀ b, Txt.replace (tK b) (Str.ofString "2 1 9") (Str.ofString "2 0 9") = (badK b).getD 3 (Str.ofString "") := by decide +kernel
theorem bad_4 : ∀ b, Txt.replace (tK b) (Str.ofString "1 0 9") (Str.ofString "1 0 8") = (badK b).getD 4 (Str.ofString "") := by decide +kernel
theorem bad_5 : ∀ b, Txt.replace (tK b) (Str.ofString "\n5 3") (Str.ofString "\n4 0 9 zz . back\n5 3") = (badK b).getD 5 (Str.ofString "") := by decide +kernel
theorem bad_6 : ∀ b, Txt.replace (tK b) (Str.ofString "cy .") (Str.ofString "cy . again") = (badK b).getD 6 (Str.ofString "") := by decide +kernel
theorem good_w : ∀ b, Txt.replace (Txt.replace (tK b) (Str.ofString " a\n") (Str.ofString " c\n")) (Str.ofString "9 5") (Str.ofString "9 6") ++ Str.ofString "\n6 0 9 zz . new" = gK b := by decide +kernel
theorem rep_few : ∀ b, ((rK b).drop 1).all (fun r => decide (r.length + (Builtin.Str.occurrences r (Str.ofString " 9 ") 0 r.length 1).length * (Str.ofString " 8 ").length ≤ 100000) && decide ((rep1 r (Str.ofString " 9 ") (Str.ofString " 8 ")).length ≤ 100)) = true := by decide +kernel
theorem rep_few2 : ∀ b, (tK b).length + (Builtin.Str.occurrences (tK b) (Str.ofString " ann") 0 (tK b).length 1).length * (Str.ofString " bob").length ≤ 100000 ∧ (rep1 (tK b) (Str.ofString " ann") (Str.ofString " bob")).length ≤ 100000 := by decide +kernel
theorem t_few : ∀ b, (tK b).length ≤ 100 := by decide +kernel
theorem badK_getD (b : Bool) : badK b = [(badK b).getD 0 (Str.ofString ""), (badK b).getD 1 (Str.ofString ""), (badK b).getD 2 (Str.ofString ""), (badK b).getD 3 (Str.ofString ""), (badK b).getD 4 (Str.ofString ""), (badK b).getD 5 (Str.ofString ""), (badK b).getD 6 (Str.ofString "")] := rfl
theorem join_sm1 : ∀ b, (((Str.ofString "8 5") :: ((rK b).drop 1).map fun r => rep1 r (Str.ofString " 9 ") (Str.ofString " 8 ")).map (fun x => x.length)).sum + ((Str.ofString "8 5") :: ((rK b).drop 1).map fun r => rep1 r (Str.ofString " 9 ") (Str.ofString " 8 ")).length * (Str.ofString "\n").length ≤ 16777216 := by decide +kernel
theorem join_sm2 : ∀ b, (((Str.ofString "9 2") :: ((rK b).take 3).drop 1).map (fun x => x.length)).sum + ((Str.ofString "9 2") :: ((rK b).take 3).drop 1).length * (Str.ofString "\n").length ≤ 16777216 := by decide +kernel
theorem repl_sm (b : Bool) {z : Str} (h : z.length ≤ 100) : (tK b).length + ((tK b).length + 1) * z.length ≤ 16777216 := by
  have h1 := t_few b
  have h2 : ((tK b).length + 1) * z.length ≤ 101 * 100 := Nat.mul_le_mul (by omega) h
  omega
/-- a list that was made since grows -/
structure Gr (K : PySem.W.Frag) (H Hn : Hp) (p : Addr) (l : List V) : Prop where
  n : H p = none
  s : Same H Hn
  e : Hn p = some (.lst l)
theorem Gr.ty {K : PySem.W.Frag} {H Hn : Hp} {p : Addr} {l : List V} (g : Gr K H Hn p l) : tyV K "list" (V.ref p) Hn := .inl ⟨rfl, _, SqL.of g.e⟩
theorem Gr.same {K : PySem.W.Frag} {H Hn H' : Hp} {p : Addr} {l : List V} (g : Gr K H Hn p l) (s : Same Hn H') : Gr K H H' p l := ⟨g.n, g.s.trans s, s _ _ g.e⟩
theorem Gr.upd {K : PySem.W.Frag} {H Hn : Hp} {p : Addr} {l l' : List V} (g : Gr K H Hn p l) : Gr K H (upd Hn p (.lst l')) p l' := ⟨g.n, g.s.over g.n, upd_same⟩
theorem Gr.app {K : PySem.W.Frag} {H Hn : Hp} {p : Addr} {l : List V} {y : V} {Q : VK} (g : Gr K H Hn p l) (hl : l.length < 100) (q : ∀ H', Gr K H H' p (l ++ [y]) → Q .non H') : rAppend (.ref p) [y] Hn Q :=
  ⟨p, l, y, rfl, rfl, g.e, by rw [sizeLine_eq]; omega, q _ g.upd⟩
section
variable {P : Program} {w : World} {K : PySem.W.Frag} {mg : Str → Option Value} {base : Heap}
def spBadWoods : Sp := fun vs H Q _ => ∃ (b : Bool) (more : Int), vs = [.str (tK b), .int more] ∧ ∀ p H', Same H H' → H' p = some (.lst ((badK b).map V.str)) → Q (.ref p) H'
abbrev N__law_bad_woods : List Str := ["base", "here", "rows", "head", "found", "row"]
theorem sc__law_bad_woods : FnScope N__law_bad_woods ["base", "here"] (defScope s__law_bad_woods) := ⟨rfl, rfl, rfl, by decide +kernel, rfl, by decide +kernel, by decide +kernel⟩
theorem be__law_bad_woods : BindEq "_law_bad_woods" "_law_bad_woods" s__law_bad_woods ["base", "here"] := fun _ _ _ _ _ _ us hl => match us, hl with | [_, _], _ => rfl
theorem D__law_bad_woods (T : Txt K mg base) : Def P w K mg base 1 (He.ga K "_law_bad_woods") ["base", "here"] spBadWoods := by
  refine mk_def T.f__law_bad_woods sc__law_bad_woods be__law_bad_woods (fun vs H Q E h => ?_) (fun cdv A outer s H vs Q E hr h => ?_)
  · obtain ⟨b, more, rfl, _⟩ := h
    rfl
  · obtain ⟨b, more, rfl, k⟩ := h
    refine ⟨_, (pss_asgK (i := 2) sc__law_bad_woods.nd rfl (Or.inl rfl) (pek_split (pv 0))
      (psst_cons (PST.of (ps_set (i := 3) sc__law_bad_woods.nd rfl (Or.inl rfl) (pe_split (pe_ix ix_list (pv 2) pe_int (fun _ _ => rfl)) pe_str)))
      (psst_cons (PST.of (ps_set (i := 4) sc__law_bad_woods.nd rfl (Or.inl rfl) (pe_lstS (pa_cons (pe_op op_add_str (pe_op op_add_str (pe_callTy call_str_int (by rfl) T.b_str (by decide +kernel) (pa_cons (pe_op op_sub (pe_callTy call_int_str (by rfl) T.b_int (by decide +kernel) (pa_cons (pe_ix ix_list (pv 3) pe_int (fun _ _ => rfl)) pa_nil)) pe_int) pa_nil)) pe_str) (pe_ix ix_list (pv 3) pe_int (fun _ _ => rfl))) pa_nil))))
      (psst_cons (PST.of (ps_asg (pe_joinT (CwR.pet_op op_catN (CwR.PET.of (pe_lstS (pa_cons (pe_ix ix_list (pv 4) pe_int (fun _ _ => rfl)) pa_nil))) (pet_lc (own := [("row", 5)]) (g := gName 5) rfl sc__law_bad_woods.nd (pi_list (pe_slice sl_listN (pv 2) (po_some pe_int) po_none)) (blkOk_by (N := N__law_bad_woods) (sc := defScope s__law_bad_woods) (by decide +kernel)) (fun _ _ _ _ _ => by exact (pg_name (i := 5) sc__law_bad_woods.nd rfl (Or.inl rfl))) (fun _ _ _ _ _ => pts_nil) (fun _ _ _ _ _ => by exact (pet_rep1 (pv 5)))))) (pg_sub (pv 4) pe_int set_list)))
      (psst_cons (PST.of (ps_expr (pe_bm PySem.F.plainAttrs_list PySem.F.slot_list_append PySem.F.type_list_append mt_append (pv 4) (pa_cons (pe_join pe_str (pe_op op_catN (pe_lstS (pa_cons (pe_op op_add_str (pe_ix ix_list (pv 3) pe_int (fun _ _ => rfl)) pe_str) pa_nil)) (pe_slice sl_listN (pv 2) (po_some pe_int) (po_some pe_int)))) pa_nil))))
      (psst_cons (pst_expr (pet_bm PySem.F.plainAttrs_list PySem.F.slot_list_append PySem.F.type_list_append mt_append (pv 4) (pat_cons (pet_rep1 (pv 0)) pat_nil)))
      (psst_cons (pst_expr (pet_bm PySem.F.plainAttrs_list PySem.F.slot_list_append PySem.F.type_list_append mt_append (pv 4) (pat_cons (CwR.pet_replC (pv 0)) pat_nil)))
      (psst_cons (pst_expr (pet_bm PySem.F.plainAttrs_list PySem.F.slot_list_append PySem.F.type_list_append mt_append (pv 4) (pat_cons (CwR.pet_replC (pv 0)) pat_nil)))
      (psst_cons (pst_expr (pet_bm PySem.F.plainAttrs_list PySem.F.slot_list_append PySem.F.type_list_append mt_append (pv 4) (pat_cons (CwR.pet_replC (pv 0)) pat_nil)))
      (psst_cons (pst_expr (pet_bm PySem.F.plainAttrs_list PySem.F.slot_list_append PySem.F.type_list_append mt_append (pv 4) (pat_cons (CwR.pet_replC (pv 0)) pat_nil)))
      (CwR.psst_one (PST.of (ps_ret (pv 4)))))))))))))), ?_⟩
    walk_at "rd"
    have z9 : (100000 : Nat) < sizeLine := by rw [sizeLine_eq]; omega
    have tl := t_few b
    have n1 : ((Str.ofString "\n").length == 0) = false := by decide +kernel
    have n2 : ((Str.ofString " ").length == 0) = false := by decide +kernel
    have e1 : (Str.ofString "\n").length = 1 := by decide +kernel
    refine ⟨⟨_, rfl⟩, n1, by omega, fun rp nR => ?_⟩
    rw [split_t]
    have s1 : Same H (upd H rp (.lst ((rK b).map V.str))) := Same.new nR
    generalize hH1 : upd H rp (.lst ((rK b).map V.str)) = H1 at s1
    have r1 : H1 rp = some (.lst ((rK b).map V.str)) := by rw [← hH1]; exact upd_same
    refine ⟨rp, _, 0, .str (Str.ofString "9 5"), rfl, rfl, SqL.of r1, rfl, ⟨_, rfl⟩, _, rfl, n2, ?_, fun hp nH => ?_⟩
    · have : (Str.ofString "9 5").length = 3 := by decide +kernel
      omega
    rw [split_h]
    have s2 : Same H1 (upd H1 hp (.lst (([Str.ofString "9", Str.ofString "5"] : List Str).map V.str))) := Same.new nH
    generalize hH2 : upd H1 hp (.lst (([Str.ofString "9", Str.ofString "5"] : List Str).map V.str)) = H2 at s2
    have h2 : H2 hp = some (.lst [.str (Str.ofString "9"), .str (Str.ofString "5")]) := by rw [← hH2]; exact upd_same
    have t8 : Str.ofString (toString (9 - 1 : Int)) ++ Str.ofString " " = Str.ofString "8 " := by decide +kernel
    have t85 : Str.ofString "8 " ++ Str.ofString "5" = Str.ofString "8 5" := by decide +kernel
    have l9 : (Str.ofString "9").length ≤ 640 := by decide +kernel
    have l8 : (Str.ofString (toString (9 - 1 : Int))).length + (Str.ofString " ").length ≤ 100 := by decide +kernel
    have l85 : (Str.ofString "8 ").length + (Str.ofString "5").length ≤ 100 := by decide +kernel
    refine ⟨hp, _, 0, .str (Str.ofString "9"), rfl, rfl, SqL.of h2, rfl, _, rfl, 9, int_9, l9, by decide, by omega, hp, _, 1, .str (Str.ofString "5"), rfl, rfl, SqL.of h2, rfl, _, rfl, ?_, by omega, fun p H3 n3 s3 e3 => ?_⟩
    · rw [t8]
      omega
    rw [t8, t85] at e3
    have s03 := (s1.trans s2).trans s3
    have G3 : Gr K H H3 p [.str (Str.ofString "8 5")] := ⟨(s1.trans s2).free n3, s03, e3⟩
    have r3 := (s2.trans s3) _ _ r1
    have h3 := s3 _ _ h2
    refine ⟨⟨_, rfl⟩, p, _, 0, .str (Str.ofString "8 5"), rfl, rfl, SqL.of e3, rfl, by omega, fun q H4 n4 s4 e4 => ?_⟩
    refine lcL (l := (rK b).drop 1) V.str (fun r => some (.str (rep1 r (Str.ofString " 9 ") (Str.ofString " 8 ")))) (fun R h => ?_) (by show 4 < _; omega) (fun r H5 hr s5 N1 N0 q1 q0 => ?_) (fun D H5 nD s5 eD => ?_)
    · walk_at "rd"
      exact ⟨rp, _, rfl, SqL.of (s4 _ _ r3), fun p5 H5 n5 s5 e5 => h p5 H5 s5 (SqL.of e5)⟩
    · walk_at "rd"
      have fw := List.all_eq_true.mp (rep_few b) r hr
      rw [Bool.and_eq_true] at fw
      unfold tRep1
      walk_at "rd"
      exact ⟨of_decide_eq_true fw.1, Nat.le_trans (of_decide_eq_true fw.2) (by decide), q1 _ _ (Same.refl _) rfl⟩
    have eD : H5 D = some (.lst ((((rK b).drop 1).map fun r => rep1 r (Str.ofString " 9 ") (Str.ofString " 8 ")).map V.str)) := by
      rw [eD, List.filterMap_eq_map', List.map_map]
      rfl
    have G5 := (G3.same s4).same s5
    have r5 := (s4.trans s5) _ _ r3
    have h5 := (s4.trans s5) _ _ h3
    refine ⟨q, D, _, _, rfl, rfl, s5 _ _ e4, eD, by rw [List.length_map, List.length_map]; show 1 + 4 ≤ sizeLine; omega, fun u H6 n6 s6 e6 => ⟨u, rfl, (Str.ofString "8 5") :: ((rK b).drop 1).map fun r => rep1 r (Str.ofString " 9 ") (Str.ofString " 8 "), .inl (SqL.of e6), ?_, ?_⟩⟩
    · exact join_sm1 b
    rw [bad_0]
    have G6 := G5.same s6
    refine ⟨p, _, 0, 0, rfl, rfl, G6.e, rfl, ?_⟩
    have G7 : Gr K H (upd H6 p (.lst [.str ((badK b).getD 0 (Str.ofString ""))])) p [.str ((badK b).getD 0 (Str.ofString ""))] := G6.upd
    have kp : ∀ c o, c ≠ p → H6 c = some o → (upd H6 p (.lst [.str ((badK b).getD 0 (Str.ofString ""))])) c = some o := fun c o hc e => by rw [upd_ne hc]; exact e
    have r7 := kp _ _ (fun z => by have := (s1.trans s2).free n3; have r := r1; rw [z] at r; rw [s2.free n3] at r; cases r) (s6 _ _ r5)
    have h7 := kp _ _ (fun z => by have r := h2; rw [z, n3] at r; cases r) (s6 _ _ h5)
    rw [List.set_cons_zero]
    generalize upd H6 p (.lst [.str ((badK b).getD 0 (Str.ofString ""))]) = H7 at G7 r7 h7
    have t92 : Str.ofString "9" ++ Str.ofString " 2" = Str.ofString "9 2" := by decide +kernel
    have l92 : (Str.ofString "9").length + (Str.ofString " 2").length ≤ 100 := by decide +kernel
    refine ⟨G7.ty, ⟨_, rfl⟩, hp, _, 0, .str (Str.ofString "9"), rfl, rfl, SqL.of h7, rfl, _, rfl, by omega, by omega, fun u2 H8 n8 s8 e8 => ⟨rp, _, rfl, SqL.of (s8 _ _ r7), fun u3 H9 n9 s9 e9 => ?_⟩⟩
    rw [t92] at e8
    have ec : cutV ((rK b).map V.str) (some 1) (some 3) = (((rK b).take 3).drop 1).map V.str := by
      cases b <;> rfl
    rw [ec] at e9
    refine ⟨u2, u3, _, _, rfl, rfl, s9 _ _ e8, e9, by rw [List.length_map]; show 1 + 2 ≤ sizeLine; omega, fun u4 H10 n10 s10 e10 => ⟨u4, rfl, (Str.ofString "9 2") :: ((rK b).take 3).drop 1, .inl (SqL.of e10), join_sm2 b, ?_⟩⟩
    rw [bad_1]
    refine (((G7.same s8).same s9).same s10).app (by simp) fun H11 G11 => ⟨G11.ty, ?_⟩
    unfold tRep1 CwR.tReplC
    walk_at "rd"
    have rf := rep_few2 b
    refine ⟨rf.1, rf.2, ?_⟩
    rw [bad_2]
    refine G11.app (by simp) fun H12 G12 => ⟨G12.ty, ?_⟩
    refine ⟨repl_sm b (by decide +kernel), ?_⟩
    rw [bad_3]
    refine G12.app (by simp) fun H13 G13 => ⟨G13.ty, repl_sm b (by decide +kernel), ?_⟩
    rw [bad_4]
    refine G13.app (by simp) fun H14 G14 => ⟨G14.ty, repl_sm b (by decide +kernel), ?_⟩
    rw [bad_5]
    refine G14.app (by simp) fun H15 G15 => ⟨G15.ty, repl_sm b (by decide +kernel), ?_⟩
    rw [bad_6]
    refine G15.app (by simp) fun H16 G16 => ?_
    refine k p H16 G16.s ?_
    rw [G16.e, badK_getD]
    rfl
end
end Vw
namespace Vw
open PySem PySem.Spec PyProof.Rows L2
/-! ### what is put together is a wood that can be -/
theorem fold_sub : ∀ (l : List Int) (rs : Rows), (l.foldl prune1 rs).Sublist rs
  | [], rs => List.Sublist.refl _
  | n :: l, rs => (fold_sub l (prune1 rs n)).trans (prune1_sub rs n)
theorem pruned_sub (rs : Rows) : (prunedR rs).Sublist rs := fold_sub _ _
theorem mergedM_ok {B O T M : Wd} (h : mergedM B O T = .ok M) : ComesOf B O ∧ ComesOf B T ∧ tooMuch (prunedR (rawM B O T)) = false ∧ M = ⟨prunedR (rawM B O T), O.came + T.came - B.came, max O.clock T.clock⟩ := by
  unfold mergedM at h
  split at h
  · cases h
  · rename_i hk
    split at h
    · cases h
    · rename_i ht
      cases h
      refine ⟨comesB_iff.mp ?_, comesB_iff.mp ?_, by simpa using ht, rfl⟩
      · cases q : comesB B O with
        | true => rfl
        | false => exact absurd (.inl q) hk
      · cases q : comesB B T with
        | true => rfl
        | false => exact absurd (.inr q) hk
theorem mergedM_err {B O T : Wd} {e : Er} (h : mergedM B O T = .error e) (ho : ComesOf B O) (ht : ComesOf B T) : e = .full := by
  unfold mergedM at h
  rw [comesB_iff.mpr ho, comesB_iff.mpr ht] at h
  rw [if_neg (by simp)] at h
  split at h
  · cases h
    rfl
  · cases h
theorem voteOf_some {vs : List (Str × Int)} {z : Str} (h : voteOf vs z ≠ 0) : (z, voteOf vs z) ∈ vs := by
  unfold voteOf at h ⊢
  cases e : vs.find? fun p => decide (p.1 = z) with
  | none =>
    rw [e] at h
    exact absurd rfl h
  | some p =>
    have h1 := List.mem_of_find?_eq_some e
    have h2 := List.find?_some e
    simp only [decide_eq_true_eq] at h2
    show (z, p.2) ∈ vs
    rw [← h2]
    exact h1
theorem merged_mem {b o t : List (Str × Int)} {v : Str × Int} (h : v ∈ mergedV b o t) : v ∈ o ∨ v ∈ t := by
  obtain ⟨z, hz, e⟩ := List.mem_filterMap.mp h
  unfold wayP at e
  split at e
  · rename_i hw
    cases e
    unfold wayOf at hw ⊢
    split at hw
    · rename_i c
      rw [if_pos c]
      exact .inl (voteOf_some hw)
    · rename_i c
      rw [if_neg c]
      exact .inr (voteOf_some hw)
  · cases e
theorem votesIn_mem {B O T : Wd} {n : Int} {b : Row} (hb : findR B.rows n = some b) {v : Str × Int} (h : v ∈ votesIn (findR O.rows n) (findR T.rows n) b.votes) :
    (∃ r, (n, r) ∈ B.rows ∧ v ∈ r.votes) ∨ (∃ r, (n, r) ∈ O.rows ∧ v ∈ r.votes) ∨ (∃ r, (n, r) ∈ T.rows ∧ v ∈ r.votes) := by
  cases ho : findR O.rows n with
  | none =>
    cases ht : findR T.rows n with
    | none =>
      rw [ho, ht] at h
      exact .inl ⟨b, findR_mem hb, h⟩
    | some t =>
      rw [ho, ht] at h
      exact .inr (.inr ⟨t, findR_mem ht, h⟩)
  | some o =>
    cases ht : findR T.rows n with
    | none =>
      rw [ho, ht] at h
      exact .inr (.inl ⟨o, findR_mem ho, h⟩)
    | some t =>
      rw [ho, ht] at h
      rcases merged_mem h with z | z
      · exact .inr (.inl ⟨o, findR_mem ho, z⟩)
      · exact .inr (.inr ⟨t, findR_mem ht, z⟩)
theorem votesIn_len {B O T : Wd} {n : Int} {b : Row} {m1 m2 m3 : Nat} (hb : findR B.rows n = some b) (l1 : ∀ p ∈ B.rows, p.2.votes.length ≤ m1) (l2 : ∀ p ∈ O.rows, p.2.votes.length ≤ m2) (l3 : ∀ p ∈ T.rows, p.2.votes.length ≤ m3) : (votesIn (findR O.rows n) (findR T.rows n) b.votes).length ≤ m1 + m2 + m3 := by
  have k1 := l1 _ (findR_mem hb)
  dsimp only at k1
  cases ho : findR O.rows n with
  | none =>
    cases ht : findR T.rows n with
    | none => show b.votes.length ≤ _; omega
    | some t =>
      have := l3 _ (findR_mem ht)
      show t.votes.length ≤ _
      dsimp only at this
      omega
  | some o =>
    have k2 := l2 _ (findR_mem ho)
    dsimp only at k2
    cases ht : findR T.rows n with
    | none => show o.votes.length ≤ _; omega
    | some t =>
      have k3 := l3 _ (findR_mem ht)
      dsimp only at k3
      show (mergedV b.votes o.votes t.votes).length ≤ _
      have h1 := way_length (b := b.votes) (o := o.votes) (t := t.votes) (namesV b.votes o.votes t.votes)
      have h2 := namesV_len b.votes o.votes t.votes
      unfold mergedV
      omega
theorem merged_row_text {B O T : Wd} {n : Int} {b : Row} (fo : ∀ p ∈ O.rows, (p.2.struck = false → textZ p.2.text = true)) (ft : ∀ p ∈ T.rows, (p.2.struck = false → textZ p.2.text = true)) : (strIn O.rows T.rows n = false → textZ (mergedRow B.rows O.rows T.rows n b).text = true) := by
  intro hs
  show textZ (if strIn O.rows T.rows n = true then Str.ofString "" else _) = true
  rw [hs, if_neg (by decide)]
  unfold strIn at hs
  rw [Bool.or_eq_false_iff] at hs
  have get : ∀ {rs : Rows}, (∀ p ∈ rs, (p.2.struck = false → textZ p.2.text = true)) → (textIn rs n).isNone = false → textZ ((textIn rs n).getD "") = true := fun {rs} f h => by
    cases q : findR rs n with
    | none =>
      rw [textIn_none q] at h
      cases h
    | some r =>
      rw [textIn_of q, told_none] at h
      rw [textIn_of q, told_some h]
      exact f _ (findR_mem q) h
  split
  · exact get ft hs.2
  · exact get fo hs.1
theorem merged_fine {B O T M : Wd} {m1 m2 m3 : Nat} (fb : Fine B m1) (fo : Fine O m2) (ft : Fine T m3) (h : mergedM B O T = .ok M) : Fine M (m1 + m2 + m3) := by
  obtain ⟨co, ct, tm, rfl⟩ := mergedM_ok h
  have F := raw_wf fb.G fo.G ft.G fb.c0 co ct
  have sub := pruned_sub (rawM B O T)
  have oc := co.c
  have tc := ct.c
  have b0 := fb.c0
  have cm2 := fo.cm
  have cm3 := ft.cm
  have ko := fo.k0
  have kmo := fo.km
  have kmt := ft.km
  unfold tooMuch at tm
  rw [Bool.or_eq_false_iff] at tm
  have cs : ∀ p ∈ prunedR (rawM B O T), (∃ n b, findR B.rows n = some b ∧ p = (n, mergedRow B.rows O.rows T.rows n b)) ∨ (∃ n r, (n, r) ∈ O.rows ∧ n > B.came ∧ p = (n, r)) ∨
      (∃ n r, (n, r) ∈ T.rows ∧ n > B.came ∧ p = (movedN B O n, copyR r (movedN B O r.under) (max r.time O.clock))) := fun p hp => by
    rcases mem_raw.mp (sub.mem hp) with ⟨n, hn, e⟩ | ⟨n, hn, hc, e⟩ | ⟨n, hn, hc, e⟩
    · have := (nums_row fb.G.wf.nk hn).1
      exact .inl ⟨n, _, this, e⟩
    · exact .inr (.inl ⟨n, _, (nums_row fo.G.wf.nk hn).2, hc, e⟩)
    · exact .inr (.inr ⟨n, _, (nums_row ft.G.wf.nk hn).2, hc, e⟩)
  refine ⟨⟨fold_wf F, fun p hp => ?_, fun p hp => ?_, ?_⟩, by show 0 ≤ O.came + T.came - B.came; omega, fun p hp v hv => ?_, fun p hp => ?_, fun p hp => ?_, by show O.came + T.came - B.came ≤ _; omega, by show 0 ≤ max O.clock T.clock; omega, by show max O.clock T.clock ≤ _; omega, fun p hp => ?_, fun p hp v hv => ?_⟩
  · show p.1 ≤ O.came + T.came - B.came
    rcases cs p hp with ⟨n, b, hb, rfl⟩ | ⟨n, r, hr, hc, rfl⟩ | ⟨n, r, hr, hc, rfl⟩
    · have := fb.G.le _ (findR_mem hb)
      dsimp only at this ⊢
      omega
    · have := fo.G.le _ hr
      dsimp only at this ⊢
      omega
    · have := ft.G.le _ hr
      dsimp only at this ⊢
      rw [moved_gt hc]
      omega
  · have := (List.any_eq_false.mp tm.2) p.1 (List.mem_map.mpr ⟨p, hp, rfl⟩)
    have : ¬ 8 ≤ deepI (prunedR (rawM B O T)) p.1 := by simpa using this
    unfold deepI at this
    show (aboveR (prunedR (rawM B O T)) p.1).length ≤ 8
    omega
  · have : ¬ 60 < (prunedR (rawM B O T)).length := by simpa using tm.1
    show (prunedR (rawM B O T)).length ≤ 60
    omega
  · rcases cs p hp with ⟨n, b, hb, rfl⟩ | ⟨n, r, hr, hc, rfl⟩ | ⟨n, r, hr, hc, rfl⟩
    · rcases votesIn_mem (O := O) (T := T) hb hv with ⟨r, h1, h2⟩ | ⟨r, h1, h2⟩ | ⟨r, h1, h2⟩
      · exact fb.vo _ h1 v h2
      · exact fo.vo _ h1 v h2
      · exact ft.vo _ h1 v h2
    · exact fo.vo _ hr v hv
    · exact ft.vo _ hr v hv
  · rcases cs p hp with ⟨n, b, hb, rfl⟩ | ⟨n, r, hr, hc, rfl⟩ | ⟨n, r, hr, hc, rfl⟩
    · have tx := merged_row_text (B := B) (O := O) (T := T) (n := n) (b := b) (fun p hp => (fo.ro p hp).2.1) (fun p hp => (ft.ro p hp).2.1)
      refine ⟨(fb.ro _ (findR_mem hb)).1, tx, ?_⟩
      cases q : strIn O.rows T.rows n with
      | false => exact text_len (tx q)
      | true =>
        show (if strIn O.rows T.rows n = true then Str.ofString "" else _).length ≤ 30
        rw [q, if_pos rfl]
        decide
    · exact fo.ro _ hr
    · exact (show RowOk r from ft.ro (n, r) hr)
  · rcases cs p hp with ⟨n, b, hb, rfl⟩ | ⟨n, r, hr, hc, rfl⟩ | ⟨n, r, hr, hc, rfl⟩
    · exact votesIn_len hb fb.vl fo.vl ft.vl
    · have := fo.vl _ hr
      dsimp only at this ⊢
      omega
    · have := ft.vl _ hr
      show r.votes.length ≤ _
      dsimp only at this
      omega
  · show 0 ≤ p.2.time ∧ p.2.time ≤ max O.clock T.clock
    have bk := co.k
    rcases cs p hp with ⟨n, b, hb, rfl⟩ | ⟨n, r, hr, hc, rfl⟩ | ⟨n, r, hr, hc, rfl⟩
    · have := fb.tm _ (findR_mem hb)
      show 0 ≤ b.time ∧ b.time ≤ _
      dsimp only at this
      omega
    · have := fo.tm _ hr
      dsimp only at this ⊢
      omega
    · have := ft.tm _ hr
      show 0 ≤ max r.time O.clock ∧ max r.time O.clock ≤ _
      dsimp only at this
      omega
  · rcases cs p hp with ⟨n, b, hb, rfl⟩ | ⟨n, r, hr, hc, rfl⟩ | ⟨n, r, hr, hc, rfl⟩
    · rcases votesIn_mem (O := O) (T := T) hb hv with ⟨r, h1, h2⟩ | ⟨r, h1, h2⟩ | ⟨r, h1, h2⟩
      · exact fb.vn _ h1 v h2
      · exact fo.vn _ h1 v h2
      · exact ft.vn _ h1 v h2
    · exact fo.vn _ hr v hv
    · exact ft.vn _ hr v hv
/-! ### how what is put together comes of its parts -/
theorem merged_old {B O T M : Wd} (gb : Good B) (go : Good O) (gt : Good T) (c0 : 0 ≤ B.came) (h : mergedM B O T = .ok M) {n : Int} {r : Row} (hr : findR M.rows n = some r) (hn : n ≤ B.came) : ∃ b, findR B.rows n = some b ∧ r = mergedRow B.rows O.rows T.rows n b := by
  obtain ⟨co, ct, tm, rfl⟩ := mergedM_ok h
  have oc := co.c
  rcases mem_raw.mp ((pruned_sub _).mem (findR_mem hr)) with ⟨m, hm, e⟩ | ⟨m, hm, hc, e⟩ | ⟨m, hm, hc, e⟩
  · cases e
    exact ⟨_, (nums_row gb.wf.nk hm).1, rfl⟩
  · cases e
    omega
  · rw [moved_gt hc] at e
    cases e
    omega
theorem like_merged {B O T : Wd} (co : ComesOf B O) {n : Int} {b : Row} (hb : findR B.rows n = some b) (hn : n ≤ B.came) : likeR b (mergedRow B.rows O.rows T.rows n b) = true := by
  refine like_iff.mpr ⟨rfl, rfl, rfl, fun hs => ?_⟩
  show strIn O.rows T.rows n = true
  unfold strIn
  cases q : findR O.rows n with
  | none => rw [textIn_none q]; rfl
  | some o =>
    obtain ⟨b', hb', _, _, _, h4⟩ := row_old co (findR_mem q) hn
    rw [hb] at hb'
    cases hb'
    rw [textIn_of q, told_none, h4 hs]
    rfl
theorem merged_comes {B O T M : Wd} (gb : Good B) (go : Good O) (gt : Good T) (c0 : 0 ≤ B.came) (h : mergedM B O T = .ok M) : ComesOf B M := by
  obtain ⟨co, ct, tm, rfl⟩ := mergedM_ok h
  have oc := co.c
  have tc := ct.c
  have ok := co.k
  refine ⟨by show B.clock ≤ max O.clock T.clock; omega, by show B.came ≤ O.came + T.came - B.came; omega, fun p hp => ?_⟩
  rcases mem_raw.mp ((pruned_sub _).mem hp) with ⟨n, hn, rfl⟩ | ⟨n, hn, hc, rfl⟩ | ⟨n, hn, hc, rfl⟩
  · obtain ⟨h1, h2⟩ := nums_row gb.wf.nk hn
    have le := gb.le _ h2
    dsimp only at le
    unfold rowOf
    dsimp only
    rw [if_neg (by omega), h1]
    exact like_merged co h1 le
  · exact co.r _ (nums_row go.wf.nk hn).2
  · have := ct.r _ (nums_row gt.wf.nk hn).2
    unfold rowOf at this ⊢
    dsimp only at this ⊢
    rw [if_pos hc] at this
    rw [moved_gt hc, if_pos (by omega)]
    have := of_decide_eq_true this
    refine decide_eq_true ?_
    show B.clock ≤ max (rowAt T.rows n).time O.clock
    omega
theorem merged_comes_one {B O T M : Wd} (gb : Good B) (go : Good O) (gt : Good T) (c0 : 0 ≤ B.came) (h : mergedM B O T = .ok M) :
    comesB O M = true ↔ ∀ n ∈ nums M.rows, n ∈ nums B.rows → n ∈ nums O.rows := by
  obtain ⟨co, ct, tm, rfl⟩ := mergedM_ok h
  have oc := co.c
  have tc := ct.c
  have F := raw_wf gb go gt c0 co ct
  have FM : Wf (prunedR (rawM B O T)) := fold_wf F
  rw [comesB_iff]
  constructor
  · intro cm n hn hb
    obtain ⟨h1, h2⟩ := nums_row FM.nk hn
    have := cm.r _ h2
    unfold rowOf at this
    dsimp only at this
    have le := gb.le _ (nums_row gb.wf.nk hb).2
    dsimp only at le
    rw [if_neg (by omega)] at this
    cases q : findR O.rows n with
    | none => rw [q] at this; cases this
    | some r => exact (nums_find go.wf.nk).mpr ⟨r, q⟩
  · intro hA
    refine ⟨by show O.clock ≤ max O.clock T.clock; omega, by show O.came ≤ O.came + T.came - B.came; omega, fun p hp => ?_⟩
    have hpn : p.1 ∈ nums (prunedR (rawM B O T)) := mem_nums.mpr ⟨p.2, hp⟩
    have hA := hA p.1 hpn
    rcases mem_raw.mp ((pruned_sub _).mem hp) with ⟨n, hn, rfl⟩ | ⟨n, hn, hc, rfl⟩ | ⟨n, hn, hc, rfl⟩
    · obtain ⟨h1, h2⟩ := nums_row gb.wf.nk hn
      have le := gb.le _ h2
      dsimp only at le
      obtain ⟨o, ho⟩ := (nums_find go.wf.nk).mp (hA hn)
      obtain ⟨b', hb', e1, e2, e3, e4⟩ := row_old co (findR_mem ho) le
      have hb' : findR B.rows n = some b' := hb'
      rw [h1] at hb'
      cases hb'
      unfold rowOf
      dsimp only
      rw [if_neg (by omega), ho]
      refine like_iff.mpr ⟨e1.symm, e2.symm, e3.symm, fun hs => ?_⟩
      show strIn O.rows T.rows n = true
      unfold strIn
      rw [textIn_of ho, told_none, hs]
      rfl
    · obtain ⟨h1, h2⟩ := nums_row go.wf.nk hn
      have le := go.le _ h2
      dsimp only at le
      unfold rowOf
      dsimp only
      rw [if_neg (by omega), h1]
      exact like_refl _
    · unfold rowOf
      dsimp only
      have := gt.le _ (nums_row gt.wf.nk hn).2
      rw [moved_gt hc, if_pos (by omega)]
      refine decide_eq_true ?_
      show O.clock ≤ max (rowAt T.rows n).time O.clock
      omega
end Vw
namespace Vw
open PySem PySem.Spec PyProof.Rows L2
local macro_rules | `(tactic| walk_at "rd") => `(tactic| simp only [tSeq, tNext, tIfS, tAsg, tRet, tRetN, tDrop, tVar, tC, tOp, tUn, tTest, tB, tAnd, tOr, tNot, tAndV, tOrV, tNotV, tIf, tChain, tCB, tCons, tNil, tCall, tMeth, tMake, tFld, sFld, tTup, tLst, tTupS, tLstS, tDNewKS, tDNewTS, tTold, tCmp, t2I, tIsN, tNotN, tPar, gName, gNil, gCons, gTup, gSub, rI0, rU, rEq, rNe, tDGet, tDIn, tDNotIn, sDPut, tDNewK, tDGet1, tDGet2, tDPop1, tDPop2, tBM, tBM0, tM0, tM1, tSl, tPart, tNoPart, tBreak, tCont, tThru, L2.start, List.map_cons, List.map_nil, List.length_cons, List.length_nil, List.cons_append, List.nil_append, List.append_nil, List.replicate_succ, List.replicate_zero, Nat.reduceAdd, Nat.reduceSub, Nat.zero_add, List.getElem?_cons_zero, List.getElem?_cons_succ, List.set_cons_zero, List.set_cons_succ, wipe, cxOf_K, tYes, List.cons.injEq, and_self, Option.some.injEq, V.int.injEq, V.bl.injEq, V.ref.injEq, V.str.injEq, exists_eq_left', exists_eq_left, exists_and_left, and_assoc, true_and, and_true, if_true, if_false, ite_true, ite_false, Bool.not_true, Bool.not_false, Bool.false_eq_true, reduceIte])
def spLaw (K : PySem.W.Frag) : Sp := fun vs H Q _ => ∃ (a : Addr) (ns : List Int), vs = [.ref a] ∧ SqL K H a (ns.map V.int) ∧ ns.length ≤ 63 ∧ (∀ z ∈ ns, z.natAbs < 2 ^ bigC) ∧ LamX.Tabs (tabs K) H ∧ ∀ H', Q (.bl true) H'
theorem fine_wr {M : Wd} {m : Nat} (f : Fine M m) (hm : m < 1000) : WrOk M := by
  have small : ∀ i : Int, 0 ≤ i → i ≤ 1000000 → i.natAbs < 2 ^ 60 := fun i h1 h2 => by
    have : (1000000 : Nat) < 2 ^ 60 := by decide
    omega
  have h1 := f.cm
  have h2 := f.km
  refine ⟨fun p hp => ?_, small _ f.k0 (by omega), small _ f.c0 (by omega)⟩
  have h3 := f.G.le p hp
  have h4 := f.G.wf.pos p hp
  have h5 := f.G.wf.u0 p hp
  have h6 := f.G.wf.ult p hp
  obtain ⟨h7, h8⟩ := f.tm p hp
  have h9 := f.vl p hp
  refine ⟨small _ (by omega) (by omega), small _ h5 (by omega), small _ h7 (by omega), name_len (f.ro p hp).1, (f.ro p hp).2.2, by omega, f.vn p hp⟩
/-- a wood that was read, where it lies -/
structure RdAt (K : PySem.W.Frag) (H : Hp) (z : Str) (L : Lay) : Prop where
  W : WoodAt K H L
  e : L.wd = wdOf z
  F : Fd (wdOf z)
  R : Rdd z
theorem RdAt.same {K : PySem.W.Frag} {H H' : Hp} {z : Str} {L : Lay} (r : RdAt K H z L) (s : Same H H') : RdAt K H' z L := ⟨r.W.same s, r.e, r.F, r.R⟩
theorem RdAt.ext {K : PySem.W.Frag} {H H' : Hp} {z : Str} {L : Lay} (r : RdAt K H z L) (s : LamX.ExtN H H') : RdAt K H' z L := ⟨r.W.ext s, r.e, r.F, r.R⟩
theorem RdAt.fine {K : PySem.W.Frag} {H : Hp} {z : Str} {L : Lay} (r : RdAt K H z L) : Fine L.wd 100 := by rw [r.e]; exact r.R.fine r.F
theorem RdAt.text {K : PySem.W.Frag} {H : Hp} {z : Str} {L : Lay} (r : RdAt K H z L) : writtenM L.wd = z := by rw [r.e]; exact read_written r.R.r
theorem RdAt.wr {K : PySem.W.Frag} {H : Hp} {z : Str} {L : Lay} (r : RdAt K H z L) : WrOk L.wd := by rw [r.e]; exact r.F.wr
section
variable {K : PySem.W.Frag} {H : Hp} {Q : VK} {E : XK} {x y z : Str} {B O T' : Lay}
theorem use_readR (R : Rdd z) (q : ∀ H' L, RdAt K H' z L → Same H H' → Q (.ref L.p) H') : spRead K [.str z] H Q E :=
  ⟨.str z, .str z, rfl, .str z, (fun z' e => by cases e; exact R.s), (fun z' M e h H' L W eM F s _ => by
    cases e
    have h := R.r.symm.trans h
    have h := Except.ok.inj h
    subst h
    exact q H' L ⟨W, eM, F, R⟩ s), fun h => absurd R.r (h z _ rfl)⟩
theorem use_comesR (b : RdAt K H x B) (o : RdAt K H y O) (q : ∀ H', Same H H' → Q (.bl (comesB (wdOf x) (wdOf y))) H') : spComes K [.ref B.p, .ref O.p] H Q E :=
  ⟨B, O, rfl, b.W, o.W, o.fine.G, b.fine.nw, o.fine.nw, by rw [b.e, o.e]; exact q⟩
theorem use_writtenR (o : RdAt K H y O) (q : ∀ H', Same H H' → Q (.str y) H') : spWritten K [.ref O.p] H Q E := ⟨O, rfl, o.W, o.fine.G, o.wr, by rw [o.text]; exact q⟩
theorem use_mergedN (b : RdAt K H x B) (o : RdAt K H y O) (t : RdAt K H z T') (h : comesB (wdOf x) (wdOf y) = false ∨ comesB (wdOf x) (wdOf z) = false) (q : ∀ H', Same H H' → Bad K E .kin H') : spMerged K [.ref B.p, .ref O.p, .ref T'.p] H Q E := by
  have er : mergedM B.wd O.wd T'.wd = .error .kin := by
    rw [b.e, o.e, t.e]
    unfold mergedM
    rw [if_pos h]
  refine ⟨B, O, T', rfl, b.W, o.W, t.W, by rw [b.e, o.e, t.e]; exact mg_rdd b.R o.R t.R b.F o.F t.F, (fun M h => by rw [er] at h; cases h), fun e h => ?_⟩
  rw [er] at h
  cases h
  exact q
theorem use_clashesN (b : RdAt K H x B) (o : RdAt K H y O) (t : RdAt K H z T') (h : comesB (wdOf x) (wdOf y) = false ∨ comesB (wdOf x) (wdOf z) = false) (q : ∀ H', Same H H' → Bad K E .kin H') : spClashes K [.ref B.p, .ref O.p, .ref T'.p] H Q E := by
  refine ⟨B, O, T', rfl, b.W, o.W, t.W, by rw [b.e, o.e, t.e]; exact cl_rdd b.R o.R t.R b.F o.F t.F, (fun c1 c2 => ?_), fun _ => q⟩
  rw [b.e, o.e] at c1
  rw [b.e, t.e] at c2
  rcases h with h | h
  · rw [h] at c1
    cases c1
  · rw [h] at c2
    cases c2
end
theorem good_few : ∀ b, (tK b).length + ((tK b).length + 1) * (Str.ofString " c\n").length ≤ 16777216 ∧ (Txt.replace (tK b) (Str.ofString " a\n") (Str.ofString " c\n")).length + ((Txt.replace (tK b) (Str.ofString " a\n") (Str.ofString " c\n")).length + 1) * (Str.ofString "9 6").length ≤ 16777216 ∧ (Txt.replace (Txt.replace (tK b) (Str.ofString " a\n") (Str.ofString " c\n")) (Str.ofString "9 5") (Str.ofString "9 6")).length + (Str.ofString "\n6 0 9 zz . new").length ≤ 1000 := by decide +kernel
/-- for over a list that is only known when it is made -/
theorem forP {K : PySem.W.Frag} {te0 : TE} {g : TG} {tb : TS} {D : Ends} {σ : L2.St} {H : Hp} (Gd : Addr → List V → Hp → Prop) (src : ∀ R : VK, (∀ p l H1, SqL K H1 p l → Gd p l H1 → R (.ref p) H1) → te0 σ H R)
    (Pv : Addr → List V → Nat → L2.St → Hp → Prop) (h0 : ∀ p l H1, SqL K H1 p l → Gd p l H1 → Pv p l 0 σ H1) (hG : ∀ p l i σ' H', Pv p l i σ' H' → SqL K H' p l)
    (hs : ∀ p l i a σ' H' (D' : Ends), l[i]? = some a → Pv p l i σ' H' → (∀ σ2 H2, Pv p l (i + 1) σ2 H2 → D'.nx σ2 H2) → g a σ' H' fun σ2 H2 => tb D' σ2 H2)
    (hd : ∀ p l σ' H', Pv p l l.length σ' H' → D.nx σ' H') : tFor (iList K te0) g tb D σ H := by
  refine src _ fun p l H1 hp gd => ⟨p, rfl, ⟨_, hp⟩, ?_⟩
  refine for_it (walk_list (K := K) (a := p) (xs := l)) (Pv p l) (h0 p l H1 hp gd) (fun i σ' H' _ h => hG p l i σ' H' h) (fun i x σ' H2 H3 hi p1 y => ?_) (hd p l)
  obtain ⟨rfl, hx⟩ := y
  exact hs p l i x σ' _ _ hx p1 (fun _ _ h => h)
section
variable {P : Program} {w : World} {K : PySem.W.Frag} {mg : Str → Option Value} {base : Heap}
abbrev N_law : List Str := ["script", "k", "more", "text", "base", "good", "bad", "wood", "told"]
theorem sc_law : FnScope N_law ["script"] (defScope s_law) := ⟨rfl, rfl, rfl, by decide +kernel, rfl, by decide +kernel, by decide +kernel⟩
theorem be_law : BindEq "law" "law" s_law ["script"] := fun _ _ _ _ _ _ us hl => match us, hl with | [_], _ => rfl
theorem D_law {fd : FuncData} (F : FunD K "law" "law" (defArgs s_law) (defBody s_law) (defScope s_law) [] [] (He.ga K "law") fd) (T : Txt K mg base) : FnOk P w K mg base (L2N.CX P w) 35 (He.ga K "law") fd ["script"] (spLaw K) := by
  refine fn_defC F sc_law (fun vs H Q E h => ?_) (fun cdv A outer s H vs Q E hcd hr h => ?_)
  · obtain ⟨a, ns, rfl, _⟩ := h
    rfl
  · obtain ⟨a, ns, rfl, hs, hl, hz, hT, q⟩ := h
    refine ⟨_, (pss_cons (ps_for ownE rfl (pi_range1 (by rfl) T.b_range (pa_cons (pe_callB (call_max2 rfl) (by rfl) T.b_max (by decide +kernel) (pa_cons pe_int (pa_cons (pe_callB (call_min2 rfl) (by rfl) T.b_min (by decide +kernel) (pa_cons pe_int (pa_cons (pe_callB call_len_seq (by rfl) T.b_len (by decide +kernel) (pa_cons (pv 0) pa_nil)) pa_nil))) pa_nil))) pa_nil)) (pg_name (i := 1) sc_law.nd rfl (Or.inl rfl))
      (pss_cons (ps_set (i := 2) sc_law.nd rfl (Or.inl rfl) (pe_cd (D__law_drawn T) (by exact hr.mono (by first | decide | omega)) T.g__law_drawn passE (pa_cons (pe_cd (D__law_cell T) (by exact hr.mono (by first | decide | omega)) T.g__law_cell passE (pa_cons (pv 0) (pa_cons (pv 1) pa_nil))) (pa_cons (pv 1) pa_nil))))
      (pss_asgK (i := 3) sc_law.nd rfl (Or.inl rfl) (pek_op op_add_str (pe_ix ix_list (pe_lstS (pa_cons pe_str (pa_cons pe_str pa_nil))) (pe_op op_mod (pv 2) pe_int) (fun _ _ => rfl)))
      (psst_cons (PST.of (ps_set (i := 4) sc_law.nd rfl (Or.inr rfl) (pe_cd (D_read T) (by exact hr.mono (by first | decide | omega)) T.g_read passE (pa_cons (pv 3) pa_nil))))
      (psst_cons (pst_set (i := 5) sc_law.nd rfl (Or.inr rfl) (pet_cd (D_read T) (by exact hr.mono (by first | decide | omega)) T.g_read passE (pat_cons (pet_opL op_add_str (CwR.pet_replT (CwR.pet_replC (pv 3))) pe_str) pat_nil)))
      (psst_cons (PST.of (ps_for ownE rfl (pi_list (pe_cd (D__law_bad_woods T) (by exact hr.mono (by first | decide | omega)) T.g__law_bad_woods passE (pa_cons (pv 3) (pa_cons (pv 2) pa_nil)))) (pg_name (i := 6) sc_law.nd rfl (Or.inr rfl))
      (pss_cons (ps_set (i := 7) sc_law.nd rfl (Or.inr rfl) (pe_tld (k := 12) (x := "law") T hcd T.tb_law (by exact hr.mono (by first | decide | omega)) (LamX.lamS_by (by decide +kernel)) rfl (fun _ _ _ _ _ => rfl) (fun A2 outer2 s2 H2 E2 f2 c2 hr => by exact (pe_cd (D_read T) (by exact hr.mono (by first | decide | omega)) T.g_read passL (pa_cons (pv 6) pa_nil)))))
      (pss_cons (ps_if (pt_val (pe_callB call_isi (by rfl) T.b_isinstance (by decide +kernel) (pa_cons (pv 7) (pa_cons (pe_bltn (v := .ty "tuple") (by rfl) T.b_tuple (by decide +kernel) rfl) pa_nil)))) (pss_one (ps_ret pe_bl)) pss_nil)
      (pss_cons (ps_if (PW.pt (pw_or (pt_cmpR op_notBl (pe_cd (D_comes_of T) (by exact hr.mono (by first | decide | omega)) T.g_comes_of passE (pa_cons (pv 4) (pa_cons (pv 7) pa_nil))) pe_bl (nomark _)) (pw_or1 (pt_cmpR op_notBl (pe_cd (D_comes_of T) (by exact hr.mono (by first | decide | omega)) T.g_comes_of passE (pa_cons (pv 4) (pa_cons (pv 5) pa_nil))) pe_bl (nomark _))))) (pss_one (ps_ret pe_bl)) pss_nil)
      (pss_cons (ps_set (i := 8) sc_law.nd rfl (Or.inl rfl) (pe_lstS (pa_cons (pe_tld (k := 12) (x := "law") T hcd T.tb_law (by exact hr.mono (by first | decide | omega)) (LamX.lamS_by (by decide +kernel)) rfl (fun _ _ _ _ _ => rfl) (fun A2 outer2 s2 H2 E2 f2 c2 hr => by exact (pe_cd (D_merged T) (by exact hr.mono (by first | decide | omega)) T.g_merged passL (pa_cons (pv 4) (pa_cons (pv 7) (pa_cons (pv 5) pa_nil)))))) pa_nil)))
      (pss_cons (ps_expr (pe_bm PySem.F.plainAttrs_list PySem.F.slot_list_append PySem.F.type_list_append mt_append (pv 8) (pa_cons (pe_tld (k := 12) (x := "law") T hcd T.tb_law (by exact hr.mono (by first | decide | omega)) (LamX.lamS_by (by decide +kernel)) rfl (fun _ _ _ _ _ => rfl) (fun A2 outer2 s2 H2 E2 f2 c2 hr => by exact (pe_cd (D_merged T) (by exact hr.mono (by first | decide | omega)) T.g_merged passL (pa_cons (pv 4) (pa_cons (pv 5) (pa_cons (pv 7) pa_nil)))))) pa_nil)))
      (pss_cons (ps_expr (pe_bm PySem.F.plainAttrs_list PySem.F.slot_list_append PySem.F.type_list_append mt_append (pv 8) (pa_cons (pe_tld (k := 12) (x := "law") T hcd T.tb_law (by exact hr.mono (by first | decide | omega)) (LamX.lamS_by (by decide +kernel)) rfl (fun _ _ _ _ _ => rfl) (fun A2 outer2 s2 H2 E2 f2 c2 hr => by exact (pe_cd (D_clashes T) (by exact hr.mono (by first | decide | omega)) T.g_clashes passL (pa_cons (pv 4) (pa_cons (pv 7) (pa_cons (pv 5) pa_nil)))))) pa_nil)))
      (pss_cons (ps_expr (pe_bm PySem.F.plainAttrs_list PySem.F.slot_list_append PySem.F.type_list_append mt_append (pv 8) (pa_cons (pe_tld (k := 12) (x := "law") T hcd T.tb_law (by exact hr.mono (by first | decide | omega)) (LamX.lamS_by (by decide +kernel)) rfl (fun _ _ _ _ _ => rfl) (fun A2 outer2 s2 H2 E2 f2 c2 hr => by exact (pe_cd (D_clashes T) (by exact hr.mono (by first | decide | omega)) T.g_clashes passL (pa_cons (pv 4) (pa_cons (pv 5) (pa_cons (pv 7) pa_nil)))))) pa_nil)))
      (pss_one (ps_if (PW.pt (pw_or (pt_ned (pv 8) (pe_op op_repN (pe_lstS (pa_cons (pe_tupS (pa_cons pe_str (pa_cons pe_str pa_nil))) pa_nil)) pe_int) (by exact hr.units)) (pw_or1 (pt_cmpR op_ne (pe_cd (D_written T) (by exact hr.mono (by first | decide | omega)) T.g_written passE (pa_cons (pv 7) pa_nil)) (pv 6) (nomark _))))) (pss_one (ps_ret pe_bl)) pss_nil)))))))))))
      (psst_cons (PST.of (ps_if (PW.pt (pw_or (pt_cmpR op_notBl (pe_cd (D_comes_of T) (by exact hr.mono (by first | decide | omega)) T.g_comes_of passE (pa_cons (pv 5) (pa_cons (pv 4) pa_nil))) pe_bl (nomark _)) (pw_or1 (pt_cmpR op_ne (pe_cd (D_written T) (by exact hr.mono (by first | decide | omega)) T.g_written passE (pa_cons (pv 4) pa_nil)) (pv 3) (nomark _))))) (pss_one (ps_ret pe_bl)) pss_nil))
      (CwR.psst_one (PST.of (ps_if (PW.pt (pw_or (pt_ned (pe_cd (D_clashes T) (by exact hr.mono (by first | decide | omega)) T.g_clashes passE (pa_cons (pv 4) (pa_cons (pv 5) (pa_cons (pv 4) pa_nil)))) (pe_lstS pa_nil) (by exact hr.units)) (pw_or1 (pt_cmpR op_ne (pe_cd (D_written T) (by exact hr.mono (by first | decide | omega)) T.g_written passE (pa_cons (pe_cd (D_merged T) (by exact hr.mono (by first | decide | omega)) T.g_merged passE (pa_cons (pv 4) (pa_cons (pv 5) (pa_cons (pv 4) pa_nil)))) pa_nil)) (pe_cd (D_written T) (by exact hr.mono (by first | decide | omega)) T.g_written passE (pa_cons (pv 5) pa_nil)) (nomark _))))) (pss_one (ps_ret pe_bl)) pss_nil))))))))))
      (pss_one (ps_ret pe_bl))), ?_⟩
    walk_at "rd"
    generalize hm : max (1 : Int) (min 4 ns.length) = mx
    have mx1 : mx ≤ 4 := by omega
    have z9 : (100000 : Nat) < sizeLine := by rw [sizeLine_eq]; omega
    refine forR2 (n := mx) (fun R h => ?_) (by omega) (fun _ σ' H' => (∃ x1 x2 x3 x4 x5 x6 x7 x8, σ' = [some (.ref a), x1, x2, x3, x4, x5, x6, x7, x8]) ∧ SqL K H' a (ns.map V.int) ∧ LamX.Tabs (tabs K) H') ⟨⟨_, _, _, _, _, _, _, _, rfl⟩, hs, hT⟩ (fun k σ1 H1 D1 hk h1 nx1 ct1 rt1 _ => ?_) (fun σ1 H1 h1 => ?_)
    · walk_at "rd"
      refine ⟨_, .inl hs, ?_⟩
      rw [List.length_map]
      have e : (if (if (ns.length : Int) < 4 then (ns.length : Int) else 4) > 1 then (if (ns.length : Int) < 4 then (ns.length : Int) else 4) else 1) = mx := by
        rw [← hm]
        split <;> split <;> omega
      rw [e]
      exact h
    · obtain ⟨⟨x1, x2, x3, x4, x5, x6, x7, x8, rfl⟩, hs1, hT1⟩ := h1
      walk_at "rd"
      have kb : ((k : Nat) : Int).natAbs < 2 ^ 200 := Nat.lt_trans (show ((k : Nat) : Int).natAbs < 2 ^ 10 by omega) (by decide)
      refine ⟨a, ns, k, rfl, hs1, by omega, by omega, by omega, fun H2 s2 => ⟨_, _, rfl, cell_abs (by omega) (by omega) hz, kb, ?_⟩⟩
      have mr := drawM_range (cellM ns k) k
      generalize drawM (cellM ns k) k = more at mr ⊢
      have b2 : more % 2 = 0 ∨ more % 2 = 1 := by omega
      refine ⟨by omega, fun p1 H3 n3 s3 e3 => use_mod ?_⟩
      obtain ⟨b, hb⟩ : ∃ b, atI [V.str (Str.ofString ""), V.str (Str.ofString "x")] (more % 2) = some (.str (sufK b)) := by
        rcases b2 with e | e
        · exact ⟨false, by rw [e]; rfl⟩
        · exact ⟨true, by rw [e]; rfl⟩
      have tl := t_few b
      have l1 : (Str.ofString "9 5\n1 0 9 ann . a\n2 1 9 dd +ann b\n3 1 9 cy .\n5 3 9 ann . e").length + (sufK b).length ≤ 100 := by
        cases b <;> decide +kernel
      refine ⟨p1, _, _, .str (sufK b), rfl, rfl, SqL.of e3, hb, _, rfl, by omega, ?_⟩
      rw [show Str.ofString "9 5\n1 0 9 ann . a\n2 1 9 dd +ann b\n3 1 9 cy .\n5 3 9 ann . e" ++ sufK b = tK b from rfl]
      refine use_readR (rdd (t_ok b)) fun H4 B rB s4 => ?_
      unfold CwR.tReplC
      walk_at "rd"
      have gl := good_few b
      refine ⟨gl.1, gl.2.1, by omega, ?_⟩
      rw [good_w b]
      refine use_readR (rdd (g_ok b)) fun H5 G rG s5 => ?_
      have rB := rB.same s5
      have s25 := (s2.trans s3).trans (s4.trans s5)
      have hs5 := s25.seq hs1
      have T5 := hT1.ext s25
      refine forP (fun p l H' => Same H5 H' ∧ l = (badK b).map V.str) (fun R h => by
          walk_at "rd"
          exact ⟨b, more, rfl, fun p H' s e => h p _ H' (SqL.of e) ⟨s, rfl⟩⟩)
        (fun p l i σ' H' => (∃ x6 x7 x8, σ' = [some (.ref a), some (.int k), some (.int more), some (.str (tK b)), some (.ref B.p), some (.ref G.p), x6, x7, x8]) ∧ SqL K H' p l ∧ l = (badK b).map V.str ∧ RdAt K H' (tK b) B ∧ RdAt K H' (gK b) G ∧ SqL K H' a (ns.map V.int) ∧ LamX.Tabs (tabs K) H')
        (fun p l H' hp g => ⟨⟨_, _, _, rfl⟩, hp, g.2, rB.same g.1, rG.same g.1, g.1.seq hs5, T5.ext g.1⟩) (fun p l i σ' H' h => h.2.1) (fun p l i v σ' H6 D' hi h6 nx6 => ?_) (fun p l σ' H6 h6 => ?_)
      · obtain ⟨⟨x6, x7, x8, rfl⟩, hp6, rfl, rB6, rG6, hs6, T6⟩ := h6
        obtain ⟨z, hz, rfl⟩ : ∃ z, z ∈ badK b ∧ v = .str z := by
          obtain ⟨z, hz, e⟩ := List.mem_map.mp (List.mem_of_getElem? hi)
          exact ⟨z, hz, e.symm⟩
        have zb := List.all_eq_true.mp (bad_ok b) z hz
        rw [Bool.and_eq_true, Bool.not_eq_true'] at zb
        walk_at "rd"
        refine ⟨T6, fun H7 x7' T7 => use_readR (rdd zb.1) fun H8 W rW s8 => ?_⟩
        have rB8 := (rB6.ext x7').same s8
        have rG8 := (rG6.ext x7').same s8
        have T8 := T7.ext s8
        have hp8 := s8.seq ((LK.ext x7').seq hp6)
        have hs8 := s8.seq ((LK.ext x7').seq hs6)
        refine ⟨.ref W.p, .ty "tuple", .ref (cW K), .type "tuple", false, rfl, .ty _, .base (.ins rW.W.top T.c_Wood.c T.it_Wood.ha T.it_Wood.hn T.it_Wood.htk T.it_Wood.hm), T.it_Wood.nt, false, rfl, ?_⟩
        rw [if_neg (by decide)]
        refine use_comesR rB8 rW fun H9 s9 => use_notB ⟨_, rfl, ?_⟩
        rw [zb.2]
        refine iteF (use_comesR (rB8.same s9) (rG8.same s9) fun H10 s10 => use_notB ⟨_, rfl, ?_⟩)
        rw [tg_kin b]
        refine iteF ?_
        have s810 := s9.trans s10
        have rB := rB8.same s810
        have rG := rG8.same s810
        have rW := rW.same s810
        have T10 := T8.ext s810
        have hp10 := s810.seq hp8
        have hs10 := s810.seq hs8
        refine ⟨T10, fun H11 x11 T11 => ?_⟩
        have no1 : comesB (wdOf (tK b)) (wdOf z) = false ∨ comesB (wdOf (tK b)) (wdOf (gK b)) = false := .inl zb.2
        have no2 : comesB (wdOf (tK b)) (wdOf (gK b)) = false ∨ comesB (wdOf (tK b)) (wdOf z) = false := .inr zb.2
        refine use_mergedN (rB.ext x11) (rW.ext x11) (rG.ext x11) no1 fun H12 s12 => ⟨"NotKin", by decide +kernel, rfl, rfl, fun r1 H13 n13 s13 e13 => ⟨by omega, ?_⟩⟩
        have x13 : LamX.ExtN H10 H13 := x11.trans (LamX.ExtN.of (s12.trans s13))
        refine Sm.one (H0 := H10) ((rB.ext x13).W) ((T11.ext s12).ext s13) x13 e13 fun sl H14 S14 => ?_
        refine ⟨S14.ty, S14.T, fun H15 x15 T15 => use_mergedN (rB.ext (S14.x.trans x15)) (rG.ext (S14.x.trans x15)) (rW.ext (S14.x.trans x15)) no2 fun H16 s16 => ⟨"NotKin", by decide +kernel, rfl, rfl, fun r2 H17 n17 s17 e17 => (S14.ext (x15.trans (LamX.ExtN.of s16)) (T15.ext s16)).app s17 e17 (by simp) fun H18 S18 => ?_⟩⟩
        refine ⟨S18.ty, S18.T, fun H19 x19 T19 => use_clashesN (rB.ext (S18.x.trans x19)) (rW.ext (S18.x.trans x19)) (rG.ext (S18.x.trans x19)) no1 fun H20 s20 => ⟨"NotKin", by decide +kernel, rfl, rfl, fun r3 H21 n21 s21 e21 => (S18.ext (x19.trans (LamX.ExtN.of s20)) (T19.ext s20)).app s21 e21 (by simp) fun H22 S22 => ?_⟩⟩
        refine ⟨S22.ty, S22.T, fun H23 x23 T23 => use_clashesN (rB.ext (S22.x.trans x23)) (rG.ext (S22.x.trans x23)) (rW.ext (S22.x.trans x23)) no2 fun H24 s24 => ⟨"NotKin", by decide +kernel, rfl, rfl, fun r4 H25 n25 s25 e25 => (S22.ext (x23.trans (LamX.ExtN.of s24)) (T23.ext s24)).app s25 e25 (by simp) fun H26 S26 => ?_⟩⟩
        refine ⟨by omega, fun t1 H27 n27 s27 e27 => ⟨by omega, fun t2 H28 n28 s28 e28 => ⟨t2, 4, _, rfl, rfl, e28, by decide, by decide, by show 1 * 4 ≤ sizeLine; omega, fun t3 H29 n29 s29 e29 => ?_⟩⟩⟩
        refine S26.ne (k := 4) (s27.trans (s28.trans s29)) rfl ((s28.trans s29) _ _ e27) e29 ⟨_, rfl, iteF ?_⟩
        have x29 := S26.x.trans (LamX.ExtN.of (s27.trans (s28.trans s29)))
        refine use_writtenR (rW.ext x29) fun H30 s30 => ⟨rfl, ?_⟩
        rw [decide_eq_true rfl]
        exact iteF (nx6 _ _ ⟨⟨_, _, _, rfl⟩, s30.seq ((LK.ext x29).seq hp10), rfl, (rB.ext x29).same s30, (rG.ext x29).same s30, s30.seq ((LK.ext x29).seq hs10), (S26.T.ext (s27.trans (s28.trans s29))).ext s30⟩)
      · obtain ⟨⟨x6, x7, x8, rfl⟩, hp6, rfl, rB6, rG6, hs6, T6⟩ := h6
        walk_at "rd"
        refine use_comesR rG6 rB6 fun H7 s7 => use_notB ⟨_, rfl, ?_⟩
        rw [gt_kin b]
        refine iteF (use_writtenR (rB6.same s7) fun H8 s8 => ⟨rfl, ?_⟩)
        rw [decide_eq_true rfl]
        have s68 := s7.trans s8
        have kin : KinP B.wd G.wd := ⟨rB6.fine.G, rG6.fine.G, rB6.fine.c0, comesB_iff.mp (by rw [rB6.e, rG6.e]; exact tg_kin b), rG6.W.vnd, rG6.fine.vo⟩
        have ti : Tidy G.wd.rows := tidy_of rG6.fine.G.wf (by rw [rG6.e]; exact g_tidy b)
        obtain ⟨M, hM, _, _, _, eM⟩ := merged_one kin ti
        have rB8 := rB6.same s68
        have rG8 := rG6.same s68
        refine iteF ⟨B, G, B, rfl, rB8.W, rG8.W, rB8.W, by rw [rB8.e, rG8.e]; exact cl_rdd rB8.R rG8.R rB8.R rB8.F rG8.F rB8.F, (fun c1 c2 p9 H9 n9 s9 e9 => ⟨by omega, fun p10 H10 n10 s10 e10 => ?_⟩), fun c => ?_⟩
        · rw [clash_self] at e9
          refine use_neD (.lst (SqL.of (s10 _ _ e9)) .nil) (.lst (SqL.of e10) .nil) (by decide +kernel) (by decide +kernel) ⟨_, rfl, ?_⟩
          have s610 := s68.trans (s9.trans s10)
          have rB10 := rB6.same s610
          have rG10 := rG6.same s610
          have mo : MgOk B.wd G.wd B.wd := by rw [rB10.e, rG10.e]; exact mg_rdd rB10.R rG10.R rB10.R rB10.F rG10.F rB10.F
          refine iteF ⟨B, G, B, rfl, rB10.W, rG10.W, rB10.W, mo, (fun M' h' H11 L11 W11 e11 s11 f11 => ?_), fun e h' => by rw [hM] at h'; cases h'⟩
          have fM := merged_fine rB10.fine rG10.fine rB10.fine h'
          have eM11 : L11.wd = M := by
            rw [hM] at h'
            rw [e11]
            exact (Except.ok.inj h').symm
          rw [← e11] at fM
          refine ⟨L11, rfl, W11, fM.G, fine_wr fM (by decide), fun H12 s12 => use_writtenR ((rG10.same s11).same s12) fun H13 s13 => ⟨rfl, ?_⟩⟩
          rw [eM11, eM, rG6.text, decide_eq_true rfl]
          have s613 := s610.trans (s11.trans (s12.trans s13))
          exact iteF (nx1 _ _ ⟨⟨_, _, _, _, _, _, _, _, rfl⟩, s613.seq hs6, T6.ext s613⟩)
        · rw [rB8.e, rG8.e, tg_kin, tt_kin] at c
          rcases c with c | c <;> cases c
    · obtain ⟨⟨x1, x2, x3, x4, x5, x6, x7, x8, rfl⟩, hs1, hT1⟩ := h1
      walk_at "rd"
      exact q _
end
end Vw
namespace Vw
open PySem PySem.Spec PyProof.Rows L2
def fa0 : List He.Fa := [.exc "WoodError", .glo "WoodError", .exc "BadName", .glo "BadName", .exc "NoSaying", .glo "NoSaying", .exc "BadText", .glo "BadText", .exc "Full", .glo "Full", .exc "NotYours", .glo "NotYours", .exc "BadNumber", .glo "BadNumber", .exc "BadDeed", .glo "BadDeed", .exc "Nothing", .glo "Nothing", .exc "NotKin", .glo "NotKin", .glo "Saying", .cls "Saying", .mkr "Saying", .noat "Saying" "by", .noat "Saying" "under", .noat "Saying" "text", .noat "Saying" "time", .noat "Saying" "votes", .noat "Saying" "is_struck", .glo "Wood"]
def fa1 : List He.Fa := [.cls "Wood", .mkr "Wood", .noat "Wood" "sayings", .noat "Wood" "came", .noat "Wood" "clock", .glo "is_count", .glo "need_name", .glo "need_text", .meth "Wood" "now", .meth "Wood" "saying", .meth "Wood" "numbers", .meth "Wood" "deep", .meth "Wood" "own", .meth "Wood" "replies", .meth "Wood" "below", .meth "Wood" "many", .glo "is_like", .glo "comes_of", .glo "need_kin", .glo "text_of", .glo "votes_in_merges", .glo "merged_votes", .glo "merged_saying", .glo "moved", .glo "copied", .glo "pruned", .glo "merged", .glo "clashes", .glo "need", .glo "votes_written"]
def fa2 : List He.Fa := [.glo "written", .glo "number_in", .glo "votes_in_texts", .glo "put_row", .glo "filled", .glo "is_right", .glo "read", .glo "_law_cell", .glo "_law_drawn", .glo "_law_word", .glo "_law_told", .glo "_law_bad_woods", .glo "law", .free "ValueError", .free "all", .free "any", .free "bool", .free "dict", .free "int", .free "isinstance", .free "len", .free "list", .free "max", .free "min", .free "ord", .free "range", .free "set", .free "sorted", .free "str", .free "sum"]
def fa3 : List He.Fa := [.free "tuple", .str "SMALL" "abcdefghijklmnopqrstuvwxyz", .int "MOST_WORD" 6, .int "MOST_TEXT" 30, .int "MOST_SAYINGS" 60, .int "MOST_DEEP" 8, .int "BARRED" 37, .str "FIGURES" "0123456789", .int "MOST_FIGURES" 9]
def fa : List He.Fa := fa0 ++ fa1 ++ fa2 ++ fa3
def fn0 : List He.DefD := [⟨("is_count", none), "is_count", "is_count", defArgs s_is_count, defBody s_is_count, defScope s_is_count, [], []⟩, ⟨("need_name", none), "need_name", "need_name", defArgs s_need_name, defBody s_need_name, defScope s_need_name, [], []⟩, ⟨("need_text", none), "need_text", "need_text", defArgs s_need_text, defBody s_need_text, defScope s_need_text, [], []⟩, ⟨("Saying", some "__init__"), "__init__", "Saying.__init__", defArgs s_Saying___init__, defBody s_Saying___init__, defScope s_Saying___init__, [], []⟩, ⟨("Wood", some "__init__"), "__init__", "Wood.__init__", defArgs s_Wood___init__, defBody s_Wood___init__, defScope s_Wood___init__, [], []⟩, ⟨("Wood", some "now"), "now", "Wood.now", defArgs s_Wood_now, defBody s_Wood_now, defScope s_Wood_now, [], []⟩, ⟨("Wood", some "saying"), "saying", "Wood.saying", defArgs s_Wood_saying, defBody s_Wood_saying, defScope s_Wood_saying, [], []⟩, ⟨("Wood", some "numbers"), "numbers", "Wood.numbers", defArgs s_Wood_numbers, defBody s_Wood_numbers, defScope s_Wood_numbers, [], []⟩, ⟨("Wood", some "deep"), "deep", "Wood.deep", defArgs s_Wood_deep, defBody s_Wood_deep, defScope s_Wood_deep, [], []⟩, ⟨("Wood", some "own"), "own", "Wood.own", defArgs s_Wood_own, defBody s_Wood_own, defScope s_Wood_own, [], []⟩, ⟨("Wood", some "replies"), "replies", "Wood.replies", defArgs s_Wood_replies, defBody s_Wood_replies, defScope s_Wood_replies, [], []⟩, ⟨("Wood", some "below"), "below", "Wood.below", defArgs s_Wood_below, defBody s_Wood_below, defScope s_Wood_below, [], []⟩, ⟨("Wood", some "many"), "many", "Wood.many", defArgs s_Wood_many, defBody s_Wood_many, defScope s_Wood_many, [], []⟩, ⟨("is_like", none), "is_like", "is_like", defArgs s_is_like, defBody s_is_like, defScope s_is_like, [], []⟩, ⟨("comes_of", none), "comes_of", "comes_of", defArgs s_comes_of, defBody s_comes_of, defScope s_comes_of, [], []⟩, ⟨("need_kin", none), "need_kin", "need_kin", defArgs s_need_kin, defBody s_need_kin, defScope s_need_kin, [], []⟩, ⟨("text_of", none), "text_of", "text_of", defArgs s_text_of, defBody s_text_of, defScope s_text_of, [], []⟩, ⟨("votes_in_merges", none), "votes_in", "votes_in", defArgs s_votes_in_merges, defBody s_votes_in_merges, defScope s_votes_in_merges, [], []⟩, ⟨("merged_votes", none), "merged_votes", "merged_votes", defArgs s_merged_votes, defBody s_merged_votes, defScope s_merged_votes, [], []⟩, ⟨("merged_saying", none), "merged_saying", "merged_saying", defArgs s_merged_saying, defBody s_merged_saying, defScope s_merged_saying, [], []⟩, ⟨("moved", none), "moved", "moved", defArgs s_moved, defBody s_moved, defScope s_moved, [], []⟩, ⟨("copied", none), "copied", "copied", defArgs s_copied, defBody s_copied, defScope s_copied, [], []⟩, ⟨("pruned", none), "pruned", "pruned", defArgs s_pruned, defBody s_pruned, defScope s_pruned, [], []⟩, ⟨("merged", none), "merged", "merged", defArgs s_merged, defBody s_merged, defScope s_merged, [], []⟩, ⟨("clashes", none), "clashes", "clashes", defArgs s_clashes, defBody s_clashes, defScope s_clashes, [], []⟩, ⟨("need", none), "need", "need", defArgs s_need, defBody s_need, defScope s_need, [], []⟩, ⟨("votes_written", none), "votes_written", "votes_written", defArgs s_votes_written, defBody s_votes_written, defScope s_votes_written, [], []⟩, ⟨("written", none), "written", "written", defArgs s_written, defBody s_written, defScope s_written, [], []⟩, ⟨("number_in", none), "number_in", "number_in", defArgs s_number_in, defBody s_number_in, defScope s_number_in, [], []⟩, ⟨("votes_in_texts", none), "votes_in", "votes_in", defArgs s_votes_in_texts, defBody s_votes_in_texts, defScope s_votes_in_texts, [], []⟩]
def fn1 : List He.DefD := [⟨("put_row", none), "put_row", "put_row", defArgs s_put_row, defBody s_put_row, defScope s_put_row, [], []⟩, ⟨("filled", none), "filled", "filled", defArgs s_filled, defBody s_filled, defScope s_filled, [], []⟩, ⟨("is_right", none), "is_right", "is_right", defArgs s_is_right, defBody s_is_right, defScope s_is_right, [], []⟩, ⟨("read", none), "read", "read", defArgs s_read, defBody s_read, defScope s_read, [], []⟩, ⟨("_law_cell", none), "_law_cell", "_law_cell", defArgs s__law_cell, defBody s__law_cell, defScope s__law_cell, [], []⟩, ⟨("_law_drawn", none), "_law_drawn", "_law_drawn", defArgs s__law_drawn, defBody s__law_drawn, defScope s__law_drawn, [], []⟩, ⟨("_law_word", none), "_law_word", "_law_word", defArgs s__law_word, defBody s__law_word, defScope s__law_word, [], []⟩, ⟨("_law_told", none), "_law_told", "_law_told", defArgs s__law_told, defBody s__law_told, defScope s__law_told, [], []⟩, ⟨("_law_bad_woods", none), "_law_bad_woods", "_law_bad_woods", defArgs s__law_bad_woods, defBody s__law_bad_woods, defScope s__law_bad_woods, [], []⟩, ⟨("law", none), "law", "law", defArgs s_law, defBody s_law, defScope s_law, [], []⟩]
def fn : List He.DefD := fn0 ++ fn1
def tf : List He.Defn := [("law", none)]
def exB (K : PySem.W.Frag) : Bool := insTB K (He.ga K "Wood") && (wordB K errs && (decide (((tabs K).map (·.1)).Nodup)
))
theorem txt_of {K : PySem.W.Frag} {w : World} {h base : Heap} {mg : Str → Option Value} (X : K.In h) (G : h.Ns mainGlobals mg) (c : He.SaysX fa fn [] tf exB w h K) (tb : ∀ p ∈ tf, LamX.TabB base mg (He.cT K p).1 (He.cT K p).2) : Txt K mg base := by
  have d : He.SaysD fa fn K := c.t.d
  obtain ⟨ex0, more0⟩ := He.ba c.more
  obtain ⟨ex1, more1⟩ := He.ba more0
  have ex2 := more1
  exact {
    x_WoodError := by obtain ⟨a, b, c, e⟩ := He.exc_ok (d.fact 0 rfl); exact ⟨He.glo_ok X G (d.fact 1 rfl), a, b, c, e⟩
    x_BadName := by obtain ⟨a, b, c, e⟩ := He.exc_ok (d.fact 2 rfl); exact ⟨He.glo_ok X G (d.fact 3 rfl), a, b, c, e⟩
    x_NoSaying := by obtain ⟨a, b, c, e⟩ := He.exc_ok (d.fact 4 rfl); exact ⟨He.glo_ok X G (d.fact 5 rfl), a, b, c, e⟩
    x_BadText := by obtain ⟨a, b, c, e⟩ := He.exc_ok (d.fact 6 rfl); exact ⟨He.glo_ok X G (d.fact 7 rfl), a, b, c, e⟩
    x_Full := by obtain ⟨a, b, c, e⟩ := He.exc_ok (d.fact 8 rfl); exact ⟨He.glo_ok X G (d.fact 9 rfl), a, b, c, e⟩
    x_NotYours := by obtain ⟨a, b, c, e⟩ := He.exc_ok (d.fact 10 rfl); exact ⟨He.glo_ok X G (d.fact 11 rfl), a, b, c, e⟩
    x_BadNumber := by obtain ⟨a, b, c, e⟩ := He.exc_ok (d.fact 12 rfl); exact ⟨He.glo_ok X G (d.fact 13 rfl), a, b, c, e⟩
    x_BadDeed := by obtain ⟨a, b, c, e⟩ := He.exc_ok (d.fact 14 rfl); exact ⟨He.glo_ok X G (d.fact 15 rfl), a, b, c, e⟩
    x_Nothing := by obtain ⟨a, b, c, e⟩ := He.exc_ok (d.fact 16 rfl); exact ⟨He.glo_ok X G (d.fact 17 rfl), a, b, c, e⟩
    x_NotKin := by obtain ⟨a, b, c, e⟩ := He.exc_ok (d.fact 18 rfl); exact ⟨He.glo_ok X G (d.fact 19 rfl), a, b, c, e⟩
    c_Saying := ⟨He.glo_ok X G (d.fact 20 rfl), He.cls_ok (d.fact 21 rfl), He.mkr_ok (d.fact 22 rfl)⟩
    n_Saying_by := He.noat_ok (d.fact 23 rfl)
    n_Saying_under := He.noat_ok (d.fact 24 rfl)
    n_Saying_text := He.noat_ok (d.fact 25 rfl)
    n_Saying_time := He.noat_ok (d.fact 26 rfl)
    n_Saying_votes := He.noat_ok (d.fact 27 rfl)
    n_Saying_is_struck := He.noat_ok (d.fact 28 rfl)
    c_Wood := ⟨He.glo_ok X G (d.fact 29 rfl), He.cls_ok (d.fact 30 rfl), He.mkr_ok (d.fact 31 rfl)⟩
    n_Wood_sayings := He.noat_ok (d.fact 32 rfl)
    n_Wood_came := He.noat_ok (d.fact 33 rfl)
    n_Wood_clock := He.noat_ok (d.fact 34 rfl)
    g_is_count := He.glo_ok X G (d.fact 35 rfl)
    f_is_count := d.def_ 0 rfl
    g_need_name := He.glo_ok X G (d.fact 36 rfl)
    f_need_name := d.def_ 1 rfl
    g_need_text := He.glo_ok X G (d.fact 37 rfl)
    f_need_text := d.def_ 2 rfl
    f_Saying___init__ := d.def_ 3 rfl
    f_Wood___init__ := d.def_ 4 rfl
    m_Wood_now := He.meth_ok (d.fact 38 rfl)
    f_Wood_now := d.def_ 5 rfl
    m_Wood_saying := He.meth_ok (d.fact 39 rfl)
    f_Wood_saying := d.def_ 6 rfl
    m_Wood_numbers := He.meth_ok (d.fact 40 rfl)
    f_Wood_numbers := d.def_ 7 rfl
    m_Wood_deep := He.meth_ok (d.fact 41 rfl)
    f_Wood_deep := d.def_ 8 rfl
    m_Wood_own := He.meth_ok (d.fact 42 rfl)
    f_Wood_own := d.def_ 9 rfl
    m_Wood_replies := He.meth_ok (d.fact 43 rfl)
    f_Wood_replies := d.def_ 10 rfl
    m_Wood_below := He.meth_ok (d.fact 44 rfl)
    f_Wood_below := d.def_ 11 rfl
    m_Wood_many := He.meth_ok (d.fact 45 rfl)
    f_Wood_many := d.def_ 12 rfl
    g_is_like := He.glo_ok X G (d.fact 46 rfl)
    f_is_like := d.def_ 13 rfl
    g_comes_of := He.glo_ok X G (d.fact 47 rfl)
    f_comes_of := d.def_ 14 rfl
    g_need_kin := He.glo_ok X G (d.fact 48 rfl)
    f_need_kin := d.def_ 15 rfl
    g_text_of := He.glo_ok X G (d.fact 49 rfl)
    f_text_of := d.def_ 16 rfl
    g_votes_in_merges := He.glo_ok X G (d.fact 50 rfl)
    f_votes_in_merges := d.def_ 17 rfl
    g_merged_votes := He.glo_ok X G (d.fact 51 rfl)
    f_merged_votes := d.def_ 18 rfl
    g_merged_saying := He.glo_ok X G (d.fact 52 rfl)
    f_merged_saying := d.def_ 19 rfl
    g_moved := He.glo_ok X G (d.fact 53 rfl)
    f_moved := d.def_ 20 rfl
    g_copied := He.glo_ok X G (d.fact 54 rfl)
    f_copied := d.def_ 21 rfl
    g_pruned := He.glo_ok X G (d.fact 55 rfl)
    f_pruned := d.def_ 22 rfl
    g_merged := He.glo_ok X G (d.fact 56 rfl)
    f_merged := d.def_ 23 rfl
    g_clashes := He.glo_ok X G (d.fact 57 rfl)
    f_clashes := d.def_ 24 rfl
    g_need := He.glo_ok X G (d.fact 58 rfl)
    f_need := d.def_ 25 rfl
    g_votes_written := He.glo_ok X G (d.fact 59 rfl)
    f_votes_written := d.def_ 26 rfl
    g_written := He.glo_ok X G (d.fact 60 rfl)
    f_written := d.def_ 27 rfl
    g_number_in := He.glo_ok X G (d.fact 61 rfl)
    f_number_in := d.def_ 28 rfl
    g_votes_in_texts := He.glo_ok X G (d.fact 62 rfl)
    f_votes_in_texts := d.def_ 29 rfl
    g_put_row := He.glo_ok X G (d.fact 63 rfl)
    f_put_row := d.def_ 30 rfl
    g_filled := He.glo_ok X G (d.fact 64 rfl)
    f_filled := d.def_ 31 rfl
    g_is_right := He.glo_ok X G (d.fact 65 rfl)
    f_is_right := d.def_ 32 rfl
    g_read := He.glo_ok X G (d.fact 66 rfl)
    f_read := d.def_ 33 rfl
    g__law_cell := He.glo_ok X G (d.fact 67 rfl)
    f__law_cell := d.def_ 34 rfl
    g__law_drawn := He.glo_ok X G (d.fact 68 rfl)
    f__law_drawn := d.def_ 35 rfl
    g__law_word := He.glo_ok X G (d.fact 69 rfl)
    f__law_word := d.def_ 36 rfl
    g__law_told := He.glo_ok X G (d.fact 70 rfl)
    f__law_told := d.def_ 37 rfl
    g__law_bad_woods := He.glo_ok X G (d.fact 71 rfl)
    f__law_bad_woods := d.def_ 38 rfl
    g_law := He.glo_ok X G (d.fact 72 rfl)
    f_law := d.def_ 39 rfl
    b_ValueError := He.free_ok X G (d.fact 73 rfl)
    b_all := He.free_ok X G (d.fact 74 rfl)
    b_any := He.free_ok X G (d.fact 75 rfl)
    b_bool := He.free_ok X G (d.fact 76 rfl)
    b_dict := He.free_ok X G (d.fact 77 rfl)
    b_int := He.free_ok X G (d.fact 78 rfl)
    b_isinstance := He.free_ok X G (d.fact 79 rfl)
    b_len := He.free_ok X G (d.fact 80 rfl)
    b_list := He.free_ok X G (d.fact 81 rfl)
    b_max := He.free_ok X G (d.fact 82 rfl)
    b_min := He.free_ok X G (d.fact 83 rfl)
    b_ord := He.free_ok X G (d.fact 84 rfl)
    b_range := He.free_ok X G (d.fact 85 rfl)
    b_set := He.free_ok X G (d.fact 86 rfl)
    b_sorted := He.free_ok X G (d.fact 87 rfl)
    b_str := He.free_ok X G (d.fact 88 rfl)
    b_sum := He.free_ok X G (d.fact 89 rfl)
    b_tuple := He.free_ok X G (d.fact 90 rfl)
    k_SMALL := by obtain ⟨t, e⟩ := He.str_ok X G (d.fact 91 rfl); exact ⟨_, e, _, rfl⟩
    k_MOST_WORD := by obtain ⟨t, e⟩ := He.int_ok X G (d.fact 92 rfl); exact ⟨_, e, _, rfl⟩
    k_MOST_TEXT := by obtain ⟨t, e⟩ := He.int_ok X G (d.fact 93 rfl); exact ⟨_, e, _, rfl⟩
    k_MOST_SAYINGS := by obtain ⟨t, e⟩ := He.int_ok X G (d.fact 94 rfl); exact ⟨_, e, _, rfl⟩
    k_MOST_DEEP := by obtain ⟨t, e⟩ := He.int_ok X G (d.fact 95 rfl); exact ⟨_, e, _, rfl⟩
    k_BARRED := by obtain ⟨t, e⟩ := He.int_ok X G (d.fact 96 rfl); exact ⟨_, e, _, rfl⟩
    k_FIGURES := by obtain ⟨t, e⟩ := He.str_ok X G (d.fact 97 rfl); exact ⟨_, e, _, rfl⟩
    k_MOST_FIGURES := by obtain ⟨t, e⟩ := He.int_ok X G (d.fact 98 rfl); exact ⟨_, e, _, rfl⟩
    it_Wood := insTB_ok ex0
    wd := wordB_ok ex1
    tn := of_decide_eq_true ex2
    tb_law := tb ("law", none) (by unfold tf; simp)
  }

abbrev R : PySem.W.OpenRow := PySem.W.OpenLaw.row PySem.Challenge.rw_votewood_k73_merges_refused
abbrev hk : PySem.W.Hook := He.hookX 4 fa fn [] tf exB
def ob (s : PySem.W.SharedT) : He.AlX := He.obsX 4 fa fn [] tf exB (HandSHeadRun.getT s)
theorem ob_eq (s : PySem.W.SharedT) : ob s = hk.obs s.abs := He.obsX_eq (HandSHeadRun.getT_eq s)
def nm0 : List PySem.Str := ["_wall", "WoodError", "BadName", "NoSaying", "BadText", "Full", "NotYours", "BadNumber", "BadDeed", "Nothing", "NotKin", "SMALL", "MOST_WORD", "MOST_TEXT", "MOST_SAYINGS", "MOST_DEEP", "BARRED", "is_count", "need_name", "need_text", "Saying", "Wood", "is_like", "comes_of", "need_kin", "text_of", "votes_in", "votes_in_merges", "merged_votes", "merged_saying"]
def nm1 : List PySem.Str := ["moved", "copied", "pruned", "merged", "clashes", "FIGURES", "MOST_FIGURES", "need", "votes_written", "written", "number_in", "votes_in_texts", "put_row", "filled", "is_right", "read", "_law_cell", "_law_drawn", "_law_word", "_law_told", "_law_bad_woods"]
def names : List PySem.Str := nm0 ++ nm1
theorem run (w : World) : HandSHeadRun.RunEq R (PySem.W.view R.prog [57]) hk ob 30000 names w := by
  intro os
  kernel_rfl
theorem tabs_start {K : PySem.W.Frag} {H : Hp} (h : ∀ p ∈ tf.map (He.cT K), H p.2 = some (.tbl #[])) : LamX.Tabs (tabs K) H := fun p hp => LamX.TabS.nil (by
  simp only [tabs, List.mem_cons, List.not_mem_nil, or_false] at hp
  first
  | (subst hp; exact h _ (List.mem_map.mpr ⟨_, by unfold tf; simp, rfl⟩))
  | (rcases hp with rfl <;> (exact h _ (List.mem_map.mpr ⟨_, by unfold tf; simp, rfl⟩))))
theorem law_at {K : PySem.W.Frag} {w : World} {h : Heap} {mg : Str → Option Value} {f : Addr} (X : K.In h) (G : h.Ns mainGlobals mg) (hf : mg ("law" : Str) = some (.ref f)) (c : He.SaysX fa fn [] tf exB w h K) :
    LamX.LawAtS PySem.Challenge.rw_votewood_k73_merges_refused w K (L2N.CX (PySem.Challenge.rw_votewood_k73_merges_refused).prog w) 35 63 "script" mg f h := by
  have g := hf.symm.trans (He.glo_ok X G (c.t.d.fact 72 (f := .glo "law") rfl))
  cases g
  obtain ⟨fd, F⟩ := c.t.d.def_ 39 (d := ⟨("law", none), "law", "law", defArgs s_law, defBody s_law, defScope s_law, [], []⟩) rfl
  have b := FunD.bindsA (ps := ["script"]) F be_law
  refine ⟨fd, tf.map (He.cT K), spLaw K, fun p hp => ?_, fun p hp => ?_, fun p hp => ?_, fun s u => b s [u] rfl, fun H a ns hl hz hH hS => ⟨a, ns, rfl, hS, hl, fun z hz1 => ?_, tabs_start hH, fun _ => rfl⟩, fun base KB GB hB => D_law F (txt_of X G c fun p hp => hB _ (List.mem_map.mpr ⟨p, hp, rfl⟩))⟩
  · obtain ⟨q, hq, rfl⟩ := List.mem_map.mp hp
    exact c.empty q hq
  · obtain ⟨q, hq, rfl⟩ := List.mem_map.mp hp
    exact c.out q hq
  · obtain ⟨q, hq, rfl⟩ := List.mem_map.mp hp
    exact PySem.W.codeHd_of_K X (c.hd q hq)
  · exact Nat.lt_of_lt_of_le (natAbs_lt_pow_bits z) (Nat.pow_le_pow_right (by omega) (Nat.le_trans (hz z hz1) (by unfold bigC; omega)))
end Vw
open PySem PySem.W PySem.Calls PyProof.Rows
theorem PySem.Challenge.cw_votewood_k73_merges_refused_holds : PySem.Challenge.rw_votewood_k73_merges_refused.Holds := by
  w_on; o_law
  refine HandSHeadRun.head_any (r := Vw.R) (q := view Vw.R.prog [57]) (H := Vw.hk) (ob := Vw.ob) (M := 30000) (loose := Vw.names) (d := HandSHeadRun.topDef Vw.R.prog 57) (kwd := []) Vw.ob_eq
    (by kernel_rfl) (fun s => by kernel_rfl) Vw.run (by kernel_rfl) (by kernel_rfl) (by kernel_rfl) (by rfl) (by first | assumption | decide +kernel) (by decide +kernel) ⟨rfl, rfl, rfl, rfl, rfl, by decide +kernel⟩ ?hw ?hc
  case hw => w_witness2
  case hc =>
    refine LamX.walk_ofTsE (l := PySem.Challenge.rw_votewood_k73_merges_refused) (n := 63) (k := 35) (x := "script") (CX := fun w => L2N.CX (PySem.Challenge.rw_votewood_k73_merges_refused).prog w) rfl (by decide) (by kernel_rfl) ⟨rfl, by decide, by decide⟩ ?F (fun w H s e s' z => by
      obtain ⟨_, _, _, _, _, _, _, _, _, _, _, _, z⟩ := z
      exact z)
    intro w mg fa h Y G hmg0
    obtain ⟨K, KX, c⟩ := Y
    have hmg : mg ("law" : PySem.Str) = some (.ref fa) := by
      have e : (HandSHeadRun.topDef Vw.R.prog 57).name = ("law" : PySem.Str) := by kernel_rfl
      rw [← e]
      exact hmg0
    exact ⟨K, KX, Vw.law_at KX G hmg c⟩
