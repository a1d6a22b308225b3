import PyProof.Rows.All
import Wide.All
import OpenK.AllK
import Wide.FinOn
import PyProof.EqAt
import PyProof.EqKinds
import PyProof.TupleCall
import KE.KLam
import HandS.ForMost
import HandS.More
import HandS.Exc
import HandS.ExcOwn
import HandS.ExcCtx
import HandS.ExcIs
import HandS.TryOnly
import HandS.Codes
import HandS.Lambda
import HandS.Hot
import HandS.HotCalls
import HandS.Wide
import HandS.IsInst
import HandS.Defaults
import HandS.Steps
import HandS.Flow
import HandS.CallRecv
import HandS.HeadHook4
import HandS.HeadWalk
import HandS.Walk
import PySem.Challenge.RW_votewood_k13_whole_votes_once
import PyProof.CompFree
import PyProof.SumWalkG
import PyProof.Rows.SumAny
import HandS.WideBits
import HandS.TupAny
import HandS.SetFor
import HandS.Head0
import HandS.Head1
import HandS.Head2
set_option Elab.async false
set_option linter.all false
set_option maxRecDepth 100000
set_option maxHeartbeats 0
namespace Vw
open PySem PySem.Spec PyProof.Rows L2

/-! ### a def of the text that keeps its promise -/
structure Def (P : Program) (w : World) (K : PySem.W.Frag) (mg : Str → Option Value) (base : Heap) (k : Nat) (f : Addr) (ps : List Str) (sp : Sp) : Prop where
  ex : ∃ fd, FnOk P w K mg base (L2N.CX P w) k f fd ps sp ∧ Binds K fd ps []
  kp : PySem.W.keepIn K (.ref f) = true
theorem Def.mono {P : Program} {w : World} {K : PySem.W.Frag} {mg : Str → Option Value} {base : Heap} {j k : Nat} {f : Addr} {ps : List Str} {sp : Sp}
    (D : Def P w K mg base j f ps sp) (h : j ≤ k) : Def P w K mg base k f ps sp := by
  obtain ⟨⟨fd, F, b⟩, kp⟩ := D
  exact ⟨⟨fd, F.mono h, b⟩, kp⟩
theorem Def.imp {P : Program} {w : World} {K : PySem.W.Frag} {mg : Str → Option Value} {base : Heap} {k : Nat} {f : Addr} {ps : List Str} {sp sp' : Sp}
    (D : Def P w K mg base k f ps sp) (h : ∀ vs H Q E, sp' vs H Q E → sp vs H Q E) : Def P w K mg base k f ps sp' := by
  obtain ⟨⟨fd, F, b⟩, kp⟩ := D
  exact ⟨⟨fd, F.imp h, b⟩, kp⟩
/-- the text of a def stands at f -/
def Is (K : PySem.W.Frag) (x qual : Str) (st : Stmt) (f : Addr) : Prop := ∃ fd, FunD K x qual (defArgs st) (defBody st) (defScope st) [] [] f fd
abbrev cxN (P : Program) (w : World) (K : PySem.W.Frag) (mg : Str → Option Value) (base : Heap) (N : List Str) (qual : Str) (sc : Scope) (f : Addr) (cd : Value) (A : Around) (outer : List Env) (s : Shared) (H : Hp) (E : XK) : Cx :=
  cxOf (L2N.CX P w) P w K mg base N qual sc f cd A outer s H E
/-- how a def's arguments bind: no defaults -/
def BindEq (x qual : Str) (st : Stmt) (ps : List Str) : Prop :=
  ∀ (kV doc pm : Value) (an : Option Addr) (cdv ct : Value) (us : List Value), us.length = ps.length →
    bindArgs (PySem.W.fnOf x qual (defArgs st) (defBody st) (defScope st) .none kV doc pm an cdv ct) ⟨us, []⟩ = pure (ps.zip us)
section
variable {P : Program} {w : World} {K : PySem.W.Frag} {mg : Str → Option Value} {base : Heap}
theorem mk_def {x qual : Str} {st : Stmt} {f : Addr} {N ps : List Str} {k : Nat} {sp : Sp} (F : Is K x qual st f) (S : FnScope N ps (defScope st)) (hb : BindEq x qual st ps)
    (len : ∀ vs H Q E, sp vs H Q E → vs.length = ps.length)
    (body : ∀ (cdv : Value) (A : Around) (outer : List Env) (s : Shared) (H : Hp) (vs : List V) (Q : VK) (E : XK), Room k (A.deeper (envOfC qual (defScope st) s.heap.objs.size f cdv)) → sp vs H Q E →
      ∃ t, PSs (cxN P w K mg base N qual (defScope st) f cdv A outer s H E) (defBody st) t ∧ t { nx := fun _ H' => Q .non H', rt := Q } (start N vs) H) :
    Def P w K mg base (k + 1) f ps sp := by
  obtain ⟨fd, F⟩ := F
  exact ⟨⟨fd, F.ok S len body, F.bindsN hb⟩, F.kp⟩
theorem passE {N : List Str} {qual : Str} {sc : Scope} {f : Addr} {cd : Value} {A : Around} {outer : List Env} {s : Shared} {H : Hp} {E : XK} :
    Passes (L2N.CX P w) (cxN P w K mg base N qual sc f cd A outer s H E) E :=
  L2N.passes_call (L2N.takes_of rfl rfl rfl rfl) fun _ _ _ _ h => h
theorem takesE {N : List Str} {qual : Str} {sc : Scope} {f : Addr} {cd : Value} {A : Around} {outer : List Env} {s : Shared} {H : Hp} {E : XK} :
    L2N.Takes (cxN P w K mg base N qual sc f cd A outer s H E) (fun cls d _ H' => E cls d H') := L2N.takes_of rfl rfl rfl rfl
theorem ownE {N : List Str} {qual : Str} {sc : Scope} {f : Addr} {cd : Value} {A : Around} {outer : List Env} {s : Shared} {H : Hp} {E : XK} :
    PassesOwn (model P w) (cxN P w K mg base N qual sc f cd A outer s H E).A (cxN P w K mg base N qual sc f cd A outer s H E).env (cxN P w K mg base N qual sc f cd A outer s H E).xe :=
  passes_of (X := cxN P w K mg base N qual sc f cd A outer s H E) rfl
end
/-- where nothing may be let out -/
theorem passF {X : Cx} : Passes (L2N.CX X.prog X.w) X E0 := fun _ _ _ _ _ _ _ h => by
  obtain ⟨_, _, _, _, _, _, _, _, _, _, _, _, z⟩ := h
  exact z.elim
section
variable {X : Cx} {k : Nat} {f C : Addr} {ps : List Str} {sp : Sp} {E : XK} {x m : Str} {p pos apos : Pos} {e o : Expr} {es : List Expr} {ta : TE} {t : TA}
theorem pe_cd (D : Def X.prog X.w X.K X.mg X.base k f ps sp) (hr : Room k X.A) (hm : X.mg x = some (.ref f)) (hx : Passes (L2N.CX X.prog X.w) X E) (ha : PA X (e :: es) t)
    (hg : Gl X x := by rfl) (hdb : (x == ("__debug__" : Str)) = false := by decide) (he : starEach (e :: es) X.env = (false, eval e X.env) :: starEach es X.env := by rfl)
    (hpl : (backTo pos (starEach es X.env)).any (·.1) = false := by rfl) : PE X (.Call (.Name x p) (e :: es) [] pos) (tCall sp [] E t) := by
  obtain ⟨⟨fd, F, b⟩, kp⟩ := D
  exact pe_call F hr hg hm kp b .nil hx ha hdb he hpl
theorem pe_cd0 (D : Def X.prog X.w X.K X.mg X.base k f ps sp) (hr : Room k X.A) (hm : X.mg x = some (.ref f)) (hx : Passes (L2N.CX X.prog X.w) X E)
    (hg : Gl X x := by rfl) (hdb : (x == ("__debug__" : Str)) = false := by decide) : PE X (.Call (.Name x p) [] [] pos) (tCall sp [] E tNil) := by
  obtain ⟨⟨fd, F, b⟩, kp⟩ := D
  exact pe_call0 F hr hg hm kp b .nil hx hdb
theorem pe_md {pl : Sem Bool} (he : PE X o ta) (c : Cls X.K C) (hm : Meth X.K C m f) (D : Def X.prog X.w X.K X.mg X.base k f ps sp) (hr : Room k X.A) (hx : Passes (L2N.CX X.prog X.w) X E) (ha : PA X (e :: es) t)
    (hst : starEach (e :: es) X.env = (false, eval e X.env) :: starEach es X.env := by rfl) (hpl : (backTo pos (starEach es X.env)).any (·.1) = false := by rfl)
    (ht : eval (.Call (.Attribute o m apos) (e :: es) [] pos) X.env = (do
      let ov ← eval o X.env
      standAt apos.atName
      let (f, first) ← holding [ov] (getMethod ov m pl)
      callWith pos f first (backTo pos (starEach (e :: es) X.env)) (backToKw pos (keywordEach [] X.env))) := by rfl) :
    PE X (.Call (.Attribute o m apos) (e :: es) [] pos) (tMeth C m sp [] E ta t) := by
  obtain ⟨⟨fd, F, b⟩, kp⟩ := D
  exact pe_meth he c hm F hr b .nil hx ha hst hpl ht
theorem pe_md0 {pl : Sem Bool} (he : PE X o ta) (c : Cls X.K C) (hm : Meth X.K C m f) (D : Def X.prog X.w X.K X.mg X.base k f ps sp) (hr : Room k X.A) (hx : Passes (L2N.CX X.prog X.w) X E)
    (ht : eval (.Call (.Attribute o m apos) [] [] pos) X.env = (do
      let ov ← eval o X.env
      standAt apos.atName
      let (f, first) ← holding [ov] (getMethod ov m pl)
      callWith pos f first (backTo pos (starEach [] X.env)) (backToKw pos (keywordEach [] X.env))) := by rfl) :
    PE X (.Call (.Attribute o m apos) [] [] pos) (tMeth C m sp [] E ta tNil) := by
  obtain ⟨⟨fd, F, b⟩, kp⟩ := D
  exact pe_meth0 he c hm F hr b .nil hx ht
theorem pe_mk (M : Mk X.K C f) (D : Def X.prog X.w X.K X.mg X.base k f ps sp) (hr : Room (k + 1) X.A) (hm : X.mg x = some (.ref C)) (hx : Passes (L2N.CX X.prog X.w) X E) (ha : PA X (e :: es) t)
    (hg : Gl X x := by rfl) (hdb : (x == ("__debug__" : Str)) = false := by decide) (he : starEach (e :: es) X.env = (false, eval e X.env) :: starEach es X.env := by rfl)
    (hpl : (backTo pos (starEach es X.env)).any (·.1) = false := by rfl) : PE X (.Call (.Name x p) (e :: es) [] pos) (tMake C sp [] E t) := by
  obtain ⟨⟨fd, F, b⟩, kp⟩ := D
  exact pe_make M F hr hg hm b .nil hx ha hdb he hpl
theorem pe_mk0 (M : Mk X.K C f) (D : Def X.prog X.w X.K X.mg X.base k f ps sp) (hr : Room (k + 1) X.A) (hm : X.mg x = some (.ref C)) (hx : Passes (L2N.CX X.prog X.w) X E)
    (hg : Gl X x := by rfl) (hdb : (x == ("__debug__" : Str)) = false := by decide) : PE X (.Call (.Name x p) [] [] pos) (tMake C sp [] E tNil) := by
  obtain ⟨⟨fd, F, b⟩, kp⟩ := D
  exact pe_make0 M F hr hg hm b .nil hx hdb
end

/-! ### an own exception class; an own class -/
structure Exc (K : PySem.W.Frag) (mg : Str → Option Value) (x : Str) : Prop where
  g : mg x = some (.ref (He.ga K x))
  y : PySem.W.excIn K (He.ga K x) He.veBase "ValueError.__new__" = true
  k : PySem.W.keepIn K (.ref (He.ga K x)) = true
  b : PySem.W.subIn K (.ref (He.ga K x)) (.type "BaseException") = some true
  t : PySem.W.typeIn K (.ref (He.ga K x)) = some (.type "type")
section
variable {P : Program} {w : World} {K : PySem.W.Frag} {mg : Str → Option Value} {base : Heap}
/-- raise X('..') in a def -/
theorem ps_rs {N : List Str} {qual : Str} {sc : Scope} {f : Addr} {cd : Value} {A : Around} {outer : List Env} {s : Shared} {H : Hp} {E : XK} {x z : Str} {j : Nat} {p p2 pos pos2 : Pos} (T : Exc K mg x)
    (hg : Gl (cxN P w K mg base N qual sc f cd A outer s H E) x := by rfl) (hdb : (x == ("__debug__" : Str)) = false := by decide) :
    PS (cxN P w K mg base N qual sc f cd A outer s H E) (.Raise (some (.Call (.Name x p) [.Constant (.str z) j p2] [] pos)) none pos2) (fun _ _ H' => E (.ref (He.ga K x)) none H') :=
  L2N.ps_raise (W := fun cls d _ H' => E cls d H') rfl takesE (L2N.pmk_own PySem.F.excBase_ValueError T.y T.g T.k (raises_own T.b T.t) hg hdb)
end
structure Own (K : PySem.W.Frag) (mg : Str → Option Value) (x : Str) : Prop where
  g : mg x = some (.ref (He.ga K x))
  c : Cls K (He.ga K x)
  m : Mk K (He.ga K x) (He.ma K (He.ga K x) "__init__")
/-- a new object: forget all but that the rest stays -/
theorem fresh {H : Hp} {o : HO} {G : Addr → Hp → Prop} (h : ∀ (l : Addr) (H1 : Hp), Same H H1 → H l = none → H1 l = some o → G l H1) : ∀ l, H l = none → G l (upd H l o) := fun l hl =>
  h l _ (fun b u e => by rw [upd_ne (ne_of_none e hl)]; exact e) hl upd_same
/-- a constant of the module -/
structure GK (mg : Str → Option Value) (x : Str) (v : V) : Prop where
  ex : ∃ u, mg x = some u ∧ RelV v u
theorem pe_gk {X : Cx} {x : Str} {v : V} {pos : Pos} (h : GK X.mg x v) (hg : Gl X x := by rfl) (hd : (x == ("__debug__" : Str)) = false := by decide) : PE X (.Name x pos) (tC v) := by
  obtain ⟨u, e, r⟩ := h.ex
  exact pe_glob hg e r hd
/-- what the refusals' classes are to one another -/
structure Wd1 (K : PySem.W.Frag) (cs : List Str) (c : Str) : Prop where
  e : ExcC K (He.ga K c)
  m : PySem.W.exmOne K (.ref (He.ga K c)) (.ref (He.ga K "WoodError")) = some true
  v : PySem.W.kitOne K (.ref (He.ga K c)) (.type "ValueError") = some true
  d : ∀ d ∈ cs, PySem.W.kitOne K (.ref (He.ga K c)) (.ref (He.ga K d)) = some (decide (c = d))
def Word (K : PySem.W.Frag) (cs : List Str) : Prop := ∀ c ∈ cs, Wd1 K cs c
def oB (a b : Option Bool) : Bool := decide (a = b)
def excCB (K : PySem.W.Frag) (D : Addr) : Bool :=
  He.eqO (PySem.W.findIn K (.ref D) "__getattribute__") (some (some (.builtin "BaseException.__getattribute__"))) && (
  He.eqO (PySem.W.findIn K (.ref D) "__getattr__") (some none) && (
  oB (PySem.W.subIn K (.ref D) (.type "BaseException")) (some true) && (
  PySem.W.hasDictIn K D && (
  He.eqO (PySem.W.findIn K (.ref D) "__class__") (some (some (.builtin "object.__class__"))) && (
  He.eqO (PySem.W.specialIn K (.builtin "object.__class__") "__get__") (some (some (.builtin "getset_descriptor.__get__"))) && (
  oB (PySem.W.takesIn K (.builtin "object.__class__")) (some true) && oB (PySem.W.mroIn K D (.type "object")) (some true)))))))
theorem excCB_ok {K : PySem.W.Frag} {D : Addr} (h : excCB K D = true) : ExcC K D := by
  obtain ⟨h1, h⟩ := He.ba h
  obtain ⟨h2, h⟩ := He.ba h
  obtain ⟨h3, h⟩ := He.ba h
  obtain ⟨h4, h⟩ := He.ba h
  obtain ⟨h5, h⟩ := He.ba h
  obtain ⟨h6, h⟩ := He.ba h
  obtain ⟨h7, h8⟩ := He.ba h
  exact ⟨He.eqO_ok h1, He.eqO_ok h2, of_decide_eq_true h3, h4, He.eqO_ok h5, He.eqO_ok h6, of_decide_eq_true h7, of_decide_eq_true h8⟩
def wordB (K : PySem.W.Frag) (cs : List Str) : Bool := cs.all fun c => excCB K (He.ga K c) && (oB (PySem.W.exmOne K (.ref (He.ga K c)) (.ref (He.ga K "WoodError"))) (some true) && (
  oB (PySem.W.kitOne K (.ref (He.ga K c)) (.type "ValueError")) (some true) && cs.all fun d => oB (PySem.W.kitOne K (.ref (He.ga K c)) (.ref (He.ga K d))) (some (decide (c = d)))))
theorem wordB_ok {K : PySem.W.Frag} {cs : List Str} (h : wordB K cs = true) : Word K cs := fun c hc => by
  have h := List.all_eq_true.mp h c hc
  obtain ⟨h1, h⟩ := He.ba h
  obtain ⟨h2, h⟩ := He.ba h
  obtain ⟨h3, h4⟩ := He.ba h
  exact ⟨excCB_ok h1, of_decide_eq_true h2, of_decide_eq_true h3, fun d hd => of_decide_eq_true (List.all_eq_true.mp h4 d hd)⟩
section
variable {X : Cx} {o i e f value a b : Expr} {td ty tv tx ta tb : TE} {pos pos' apos cpos : Pos}
theorem pe_dg (ho : PE X o td) (hi : PE X i ty) (hu : X.A.units + 1 < cLine) (hs : NoSl i := by intro _ _; rfl) : PE X (.Subscript o i pos) (tDGet td ty) := pe_dget hu ho hi hs
theorem pc_di (hi : PE X i ty) (ho : PE X o td) (hu : X.A.units + 1 < cLine) : PC X .In i o (tDIn ty td) := pc_din hu hi ho
theorem pc_dni (hi : PE X i ty) (ho : PE X o td) (hu : X.A.units + 1 < cLine) : PC X .NotIn i o (tDNotIn ty td) := pc_dnotin hu hi ho
theorem ps_dp (ho : PE X o td) (hi : PE X i ty) (hv : PE X value tv) (hu : X.A.units + 1 < cLine) (hs : swapsWith value (some (.Subscript o i pos')) pos.line X.env = pure false := by rfl) :
    PS X (.Assign [.Subscript o i pos'] value pos) (sDPut td ty tv) := ps_dput hu ho hi hv hs
theorem pe_dg1 (ho : PE X o td) (he : PE X e ty) (hu : X.A.units + 1 < cLine) (m : M1 X o "get" apos e cpos := by exact ⟨rfl, rfl, rfl, rfl⟩) : PE X (.Call (.Attribute o "get" apos) [e] [] cpos) (tDGet1 td ty) := pe_dget1 hu ho he m
theorem pe_dg2 (ho : PE X o td) (he : PE X e ty) (hf : PE X f tx) (hu : X.A.units + 1 < cLine) (m : M2 X o "get" apos e f cpos := by exact ⟨rfl, rfl, rfl, rfl⟩) : PE X (.Call (.Attribute o "get" apos) [e, f] [] cpos) (tDGet2 td ty tx) := pe_dget2 hu ho he hf m
theorem pe_dp1 (ho : PE X o td) (he : PE X e ty) (m : M1 X o "pop" apos e cpos := by exact ⟨rfl, rfl, rfl, rfl⟩) : PE X (.Call (.Attribute o "pop" apos) [e] [] cpos) (tDPop1 td ty) := pe_dpop1 ho he m
theorem pe_dp2 (ho : PE X o td) (he : PE X e ty) (hf : PE X f tx) (m : M2 X o "pop" apos e f cpos := by exact ⟨rfl, rfl, rfl, rfl⟩) : PE X (.Call (.Attribute o "pop" apos) [e, f] [] cpos) (tDPop2 td ty tx) := pe_dpop2 ho he hf m
theorem pe_eqd (ha : PE X a ta) (hb : PE X b tb) (hu : X.A.units + 64 < cLine) : PE X (.Compare a [.Eq] [b] pos) (tOp (rEqD X.K) ta tb) := pe_cmpR (op_eqD hu) ha hb (nomark _)
theorem pt_eqd (ha : PE X a ta) (hb : PE X b tb) (hu : X.A.units + 64 < cLine) : PT X (.Compare a [.Eq] [b] pos) (tTest (tOp (rEqD X.K) ta tb)) := pt_cmpR (op_eqD hu) ha hb (nomark _)
theorem pe_ned (ha : PE X a ta) (hb : PE X b tb) (hu : X.A.units + 64 < cLine) : PE X (.Compare a [.NotEq] [b] pos) (tOp (rNeD X.K) ta tb) := pe_cmpR (op_neD hu) ha hb (nomark _)
theorem pt_ned (ha : PE X a ta) (hb : PE X b tb) (hu : X.A.units + 64 < cLine) : PT X (.Compare a [.NotEq] [b] pos) (tTest (tOp (rNeD X.K) ta tb)) := pt_cmpR (op_neD hu) ha hb (nomark _)
end
/-- rules that name the written part: within a comprehension's block -/
theorem pe_fldK (K : PySem.W.Frag) {X : Cx} {e : Expr} {ta : TE} {f : Str} {pos : Pos} (he : PE X e ta) (hb : attributeBase e f X.env (eval e X.env) = eval e X.env := by rfl) (hK : X.K = K := by rfl) : PE X (.Attribute e f pos) (tFld K ta f) := by
  subst hK
  exact pe_fld he hb
end Vw
namespace Vw
open PySem PySem.Spec PyProof.Rows L2
theorem cxOf_K {CX : CXT} {P : Program} {w : World} {K : PySem.W.Frag} {mg : Str → Option Value} {base : Heap} {N : List Str} {qual : Str} {sc : Scope} {f : Addr} {cd : Value} {A : Around} {outer : List Env} {s : Shared} {H : Hp} {E : XK} :
    (cxOf CX P w K mg base N qual sc f cd A outer s H E).K = K := rfl
/-! ### comprehensions that change nothing -/
theorem filterMap_take {α β : Type} (f : α → Option β) {l : List α} {i : Nat} {a : α} (h : l[i]? = some a) : (l.take (i + 1)).filterMap f = (l.take i).filterMap f ++ (f a).toList := by
  rw [List.take_add_one, h, List.filterMap_append]
  cases e : f a <;> simp [e]
theorem lc_ro {α : Type} {J : It} {G : Hp → Prop} {Y : Nat → Hp → V → Hp → Prop} (l : List α) (w : Walk J l.length G Y) (f : α → Option V) {g : TG} {tt : TT} {te : TE} {vs : List Nat} {σ : L2.St} {H1 : Hp} {D : Addr} {Qd : Hp → Prop}
    (hn : l.length < sizeLine) (hD : H1 D = none) (hG : ∀ H, Same H1 H → G H)
    (hs : ∀ i a x H H', l[i]? = some a → Same H1 H → Y i H x H' → ∀ (N1 : V → Hp → Prop) (N0 : Hp → Prop), (∀ y H4, Same H H4 → f a = some y → N1 y H4) → (∀ H3, Same H H3 → f a = none → N0 H3) →
      g x (wipe σ vs) H' fun σ2 H2 => wipe σ2 vs = wipe σ vs ∧ tt σ2 H2 fun b H3 => if b = true then te σ2 H3 N1 else N0 H3)
    (hd : ∀ H, Same H1 H → H D = some (.lst (l.filterMap f)) → Qd H) :
    ∃ W : Nat → Nat → Hp → Prop, (∃ m, W 0 m (upd H1 D (.lst []))) ∧ ∀ i m H, W i m H →
      (J.stop i H ∧ Qd H) ∨ (J.go i H ∧ ∃ Nx : Hp → Prop, (∀ H', Nx H' → ∃ m', m' < m ∧ W (i + 1) m' H') ∧ ∀ x H', J.yld i H x H' → g x (wipe σ vs) H' fun σ2 H2 => wipe σ2 vs = wipe σ vs ∧ tt σ2 H2 fun b H3 =>
        if b = true then te σ2 H3 fun y H4 => ∃ acc, H4 D = some (.lst acc) ∧ acc.length < sizeLine ∧ Nx (upd H4 D (.lst (acc ++ [y]))) else Nx H3) := by
  have new : ∀ {H : Hp} {o : HO}, Same H1 H → Same H1 (upd H D o) := fun {H o} s b u e => by
    rw [upd_ne (ne_of_none e hD)]
    exact s b u e
  refine lc_it w (fun i H => Same H1 H ∧ H D = some (.lst ((l.take i).filterMap f))) ⟨new (Same.refl _), ?_⟩ (fun i H _ p => hG H p.1) (fun i x H H' hi p y => ?_) (fun H p => ?_)
  · rw [upd_same]
    simp
  · obtain ⟨a, ha⟩ : ∃ a, l[i]? = some a := ⟨l[i], by simp [hi]⟩
    refine hs i a x H H' ha p.1 y _ _ (fun y H4 s4 ef => ⟨_, s4 _ _ p.2, ?_, new (p.1.trans s4), ?_⟩) (fun H3 s3 ef => ⟨p.1.trans s3, ?_⟩)
    · have h1 := List.length_filterMap_le f (l.take i)
      have h2 : (l.take i).length ≤ l.length := by rw [List.length_take]; omega
      omega
    · rw [upd_same, filterMap_take f ha, ef]
      rfl
    · rw [filterMap_take f ha, ef, s3 _ _ p.2]
      simp
  · have e := p.2
    rw [List.take_length] at e
    exact hd H p.1 e
/-! ### a lock that is opened again -/
theorem Same.lock {H H' : Hp} {d : Addr} {u f : HO} (hd : H d = some u) (s : Same (upd H d f) H') : Same H (upd H' d u) := fun b o e => by
  by_cases hb : b = d
  · subst hb
    rw [hd] at e
    cases e
    exact upd_same
  · rw [upd_ne hb]
    exact s b o (by rw [upd_ne hb]; exact e)
theorem Same.at {H H' : Hp} {a : Addr} {o : HO} (s : Same H H') (h : H a = some o) : H' a = some o := s a o h
theorem Same.new {H : Hp} {l : Addr} {o : HO} (hl : H l = none) : Same H (upd H l o) := fun b u e => by rw [upd_ne (ne_of_none e hl)]; exact e
mutual
theorem dp_same {K : PySem.W.Frag} {H H' : Hp} (s : Same H H') : ∀ {x : V} {d : PyData}, Dp K H x d → Dp K H' x d
  | _, _, .non => .non
  | _, _, .bl b => .bl b
  | _, _, .int i => .int i
  | _, _, .str z => .str z
  | _, _, .lst hs h => .lst (s.seq hs) (dps_same s h)
  | _, _, .tup hs h => .tup (by
      rcases hs with (h | ⟨o, h⟩) | h
      · exact .inl (.inl (s _ _ h))
      · exact .inl (.inr ⟨o, s _ _ h⟩)
      · exact .inr h) (dps_same s h)
theorem dps_same {K : PySem.W.Frag} {H H' : Hp} (s : Same H H') : ∀ {xs : List V} {ds : List PyData}, DpAll K H xs ds → DpAll K H' xs ds
  | _, _, .nil => .nil
  | _, _, .cons h t => .cons (dp_same s h) (dps_same s t)
end
theorem Same.tup {K : PySem.W.Frag} {H H' : Hp} {a : Addr} {xs : List V} (s : Same H H') (h : SqT K H a xs) : SqT K H' a xs := by
  rcases h with (h | ⟨o, h⟩) | h
  · exact .inl (.inl (s _ _ h))
  · exact .inl (.inr ⟨o, s _ _ h⟩)
  · exact .inr h
/-! ### comprehensions by their source -/
section
variable {K : PySem.W.Frag} {te0 : TE} {g : TG} {tt : TT} {te : TE} {vs : List Nat} {σ : L2.St} {H : Hp} {Q : VK}
/-- one turn: the item x; N1 behind an element, N0 where the test fails -/
def Turn1 {α : Type} (f : α → Option V) (g : TG) (tt : TT) (te : TE) (vs : List Nat) (σ : L2.St) (H : Hp) (a : α) (x : V) : Prop :=
  ∀ (N1 : V → Hp → Prop) (N0 : Hp → Prop), (∀ y H4, Same H H4 → f a = some y → N1 y H4) → (∀ H3, Same H H3 → f a = none → N0 H3) →
    g x (wipe σ vs) H fun σ2 H2 => wipe σ2 vs = wipe σ vs ∧ tt σ2 H2 fun b H3 => if b = true then te σ2 H3 N1 else N0 H3
/-- over a text -/
theorem lcS {z : Str} (f : Nat → Option V) (src : ∀ R : VK, R (.str z) H → te0 σ H R) (hn : z.length < sizeLine)
    (hs : ∀ c H', c ∈ z.cps.toList → Same H H' → Turn1 f g tt te vs σ H' c (.str ⟨#[c]⟩))
    (hd : ∀ D H', H D = none → Same H H' → H' D = some (.lst (z.cps.toList.filterMap f)) → Q (.ref D) H') : tLc (iStr te0) g tt te vs σ H Q := by
  refine src _ ⟨z, rfl, fun D hD => ?_⟩
  have w : Walk (Its z) z.cps.toList.length (fun _ => True) (fun i H v H' => H' = H ∧ ∃ c, z.cps[i]? = some c ∧ v = .str ⟨#[c]⟩) := by
    rw [Array.length_toList]
    exact walk_str
  refine lc_ro z.cps.toList w f (by rw [Array.length_toList]; exact hn) hD (fun _ _ => trivial) (fun i a x H1 H2 ha s1 y => ?_) (fun H' s1 e => hd D H' hD s1 e)
  obtain ⟨rfl, c, hc, rfl⟩ := y
  have e : c = a := by
    rw [Array.getElem?_toList] at ha
    rw [hc] at ha
    exact Option.some.inj ha
  subst e
  exact hs c _ (List.mem_of_getElem? ha) s1
/-- over a list that is made, or stands -/
theorem lcL {α : Type} {l : List α} (it : α → V) (f : α → Option V) (src : ∀ R : VK, (∀ p H1, Same H H1 → SqL K H1 p (l.map it) → R (.ref p) H1) → te0 σ H R) (hn : l.length < sizeLine)
    (hs : ∀ a H', a ∈ l → Same H H' → Turn1 f g tt te vs σ H' a (it a))
    (hd : ∀ D H', H D = none → Same H H' → H' D = some (.lst (l.filterMap f)) → Q (.ref D) H') : tLc (iList K te0) g tt te vs σ H Q := by
  refine src _ fun p H1 s1 hp => ⟨p, rfl, ⟨_, hp⟩, fun D hD => ?_⟩
  have w : Walk (Itl K p) l.length (fun H => SqL K H p (l.map it)) (YAt (l.map it)) := by
    have w := walk_list (K := K) (a := p) (xs := l.map it)
    rw [List.length_map] at w
    exact w
  refine lc_ro l w f hn hD (fun H' s => s.seq hp) (fun i a x H2 H3 ha s2 y => ?_) (fun H' s2 e => hd D H' (s1.free hD) (s1.trans s2) e)
  obtain ⟨rfl, hx⟩ := y
  have e : x = it a := by
    rw [List.getElem?_map, ha] at hx
    exact (Option.some.inj hx).symm
  subst e
  exact hs a _ (List.mem_of_getElem? ha) (s1.trans s2)
/-- over a range -/
theorem lcR {n : Int} {ta : TA} (f : Nat → Option V) (src : ∀ R : List V → Hp → Prop, R [.int n] H → ta σ H R) (hn : n < 10000)
    (hs : ∀ (i : Nat) H', (i : Int) < n → Same H H' → Turn1 f g tt te vs σ H' i (.int i))
    (hd : ∀ D H', H D = none → Same H H' → H' D = some (.lst ((List.range n.toNat).filterMap f)) → Q (.ref D) H') (h0 : -10000 < n := by omega) : tLc (iRng1 ta) g tt te vs σ H Q := by
  refine src _ ⟨n, rfl, by omega, by omega, fun D hD => ?_⟩
  have w : Walk (Itr 0 n.toNat) (List.range n.toNat).length (fun _ => True) (YFn fun i => .int (0 + (i : Nat))) := by
    rw [List.length_range]
    exact walk_range
  refine lc_ro (List.range n.toNat) w f (by rw [List.length_range, sizeLine_eq]; omega) hD (fun _ _ => trivial) (fun i a x H2 H3 ha s2 y => ?_) (fun H' s2 e => hd D H' hD s2 e)
  obtain ⟨rfl, rfl⟩ := y
  have hi : i < n.toNat := by
    have := (List.getElem?_eq_some_iff.mp ha).1
    rwa [List.length_range] at this
  have e : i = a := by
    rw [List.getElem?_range hi] at ha
    exact Option.some.inj ha
  subst e
  have q := hs i H3 (by omega) s2
  have z : (0 : Int) + ((i : Nat) : Int) = (i : Int) := by omega
  dsimp only
  rw [z]
  exact q
/-- over a dict's keys, under its lock -/
theorem lcK {α : Type} {l : List α} {d : Addr} (kv : α → Key × V) (f : α → Option V) (hk : H d = some (.dK (l.map kv))) (src : ∀ (H' : Hp) (R : VK), (∀ b o, b ≠ d → H b = some o → H' b = some o) → R (.ref d) H' → te0 σ H' R) (hn : l.length < sizeLine)
    (hs : ∀ a H' od, a ∈ l → (∀ b o, b ≠ d → H b = some o → H' b = some o) → H' d = some (.frz od (.dK (l.map kv))) → Turn1 f g tt te vs σ H' a (kV (kv a).1))
    (hd : ∀ D H', H D = none → Same H H' → H' D = some (.lst (l.filterMap f)) → Q (.ref D) H') : tLockE (tLc (iKeys te0) g tt te vs) σ H Q := by
  refine ⟨d, _, hk, trivial, fun od => ?_⟩
  have un : ∀ H', Same (upd H d (.frz od (.dK (l.map kv)))) H' → ∀ b o, b ≠ d → H b = some o → H' b = some o := fun H' s b o hb e => s b o (by rw [upd_ne hb]; exact e)
  refine src _ _ (un _ (Same.refl _)) ⟨d, od, rfl, .inl ⟨_, upd_same, fun D hD => ?_⟩⟩
  have nD : D ≠ d := fun z => by
    rw [z, upd_same] at hD
    cases hD
  have w : Walk (Itk d od (l.map kv)) l.length (fun H => H d = some (.frz od (.dK (l.map kv)))) (fun i H x H' => H' = H ∧ ∃ k v, (l.map kv)[i]? = some (k, v) ∧ x = kV k) := by
    have w := walk_keys (d := d) (o := od) (kvs := l.map kv)
    rw [List.length_map] at w
    exact w
  refine lc_ro l w f hn hD (fun H' s => s _ _ upd_same) (fun i a x H2 H3 ha s2 y => ?_) (fun H' s2 e => ⟨s2 _ _ upd_same, hd D _ (by rw [upd_ne nD] at hD; exact hD) (Same.lock hk s2) (by rw [upd_ne nD]; exact e)⟩)
  obtain ⟨rfl, k, v, hx, rfl⟩ := y
  have e : (k, v) = kv a := by
    rw [List.getElem?_map, ha] at hx
    exact (Option.some.inj hx).symm
  have e1 : k = (kv a).1 := congrArg Prod.fst e
  rw [e1]
  exact hs a _ od (List.mem_of_getElem? ha) (un _ s2) (s2 _ _ upd_same)
end
/-! ### for over a list -/
theorem forL {α : Type} {K : PySem.W.Frag} {te0 : TE} {g : TG} {tb : TS} {D : Ends} {σ : L2.St} {H : Hp} {l : List α} (it : α → V) (src : ∀ R : VK, (∀ p H1, Same H H1 → SqL K H1 p (l.map it) → R (.ref p) H1) → te0 σ H R)
    (Pv : Addr → Nat → L2.St → Hp → Prop) (h0 : ∀ p H1, Same H H1 → SqL K H1 p (l.map it) → Pv p 0 σ H1) (hG : ∀ p i σ' H', i ≤ l.length → Pv p i σ' H' → SqL K H' p (l.map it))
    (hs : ∀ p i a σ' H', l[i]? = some a → Pv p i σ' H' → g (it a) σ' H' fun σ2 H2 => tb { D with nx := Pv p (i + 1), ct := Pv p (i + 1), bk := D.nx } σ2 H2)
    (hd : ∀ p σ' H', Pv p l.length σ' H' → D.nx σ' H') : tFor (iList K te0) g tb D σ H := by
  refine src _ fun p H1 s1 hp => ⟨p, rfl, ⟨_, hp⟩, ?_⟩
  have w : Walk (Itl K p) l.length (fun H => SqL K H p (l.map it)) (YAt (l.map it)) := by
    have w := walk_list (K := K) (a := p) (xs := l.map it)
    rw [List.length_map] at w
    exact w
  refine for_it w (Pv p) (h0 p H1 s1 hp) (hG p) (fun i x σ' H2 H3 hi p1 y => ?_) (hd p)
  obtain ⟨rfl, hx⟩ := y
  obtain ⟨a, ha⟩ : ∃ a, l[i]? = some a := ⟨l[i], by simp [hi]⟩
  have e : x = it a := by
    rw [List.getElem?_map, ha] at hx
    exact (Option.some.inj hx).symm
  subst e
  exact hs p i a σ' _ ha p1
/-- for over range(n) -/
theorem forR {n : Int} {ta : TA} {g : TG} {tb : TS} {D : Ends} {σ : L2.St} {H : Hp} (src : ∀ R : List V → Hp → Prop, R [.int n] H → ta σ H R) (hn : n < 100000)
    (Pv : Nat → L2.St → Hp → Prop) (h0 : Pv 0 σ H)
    (hs : ∀ (i : Nat) σ' H', (i : Int) < n → Pv i σ' H' → g (.int i) σ' H' fun σ2 H2 => tb { D with nx := Pv (i + 1), ct := Pv (i + 1), bk := D.nx } σ2 H2)
    (hd : ∀ σ' H', Pv n.toNat σ' H' → D.nx σ' H') (hl : -100000 < n := by omega) : tFor (iRng1 ta) g tb D σ H := by
  refine src _ ⟨n, rfl, by omega, by omega, for_it walk_range Pv h0 (fun _ _ _ _ _ => trivial) (fun i x σ' H2 H3 hi p1 y => ?_) hd⟩
  obtain ⟨rfl, rfl⟩ := y
  have q := hs i σ' H3 (by omega) p1
  have z : (0 : Int) + ((i : Nat) : Int) = (i : Int) := by omega
  dsimp only
  rw [z]
  exact q
theorem lkA {te : TE} {i : Nat} {D : Ends} {σ : L2.St} {H : Hp} (h : tLockE te σ H fun x H1 => D.nx (σ.set i (some x)) H1) : tLock (tAsg te (gName i)) D σ H := h
end Vw
namespace Vw
open PySem PySem.Spec PyProof.Rows L2
theorem toNat_inj {a b : Char} (h : a.toNat = b.toNat) : a = b := Char.ext (UInt32.toNat_inj.mp h)
theorem map_toNat_inj : ∀ {l m : List Char}, l.map Char.toNat = m.map Char.toNat → l = m
  | [], [], _ => rfl
  | [], _ :: _, h => by simp at h
  | _ :: _, [], h => by simp at h
  | a :: l, b :: m, h => by
    simp only [List.map_cons, List.cons.injEq] at h
    rw [toNat_inj h.1, map_toNat_inj h.2]
theorem ofString_inj {a b : String} : (Str.ofString a = Str.ofString b) = (a = b) := by
  refine propext ⟨fun h => ?_, fun h => by rw [h]⟩
  rw [Str.ofString_eq_toList, Str.ofString_eq_toList] at h
  have h1 : (a.toList.map Char.toNat).toArray = (b.toList.map Char.toNat).toArray := congrArg Str.cps h
  have h2 : a.toList.map Char.toNat = b.toList.map Char.toNat := by simpa using h1
  exact String.toList_inj.mp (map_toNat_inj h2)
theorem lookup_if {β : Type} (k a : Str) (b : β) (l : List (Str × β)) : List.lookup k ((a, b) :: l) = if k = a then some b else List.lookup k l := by
  rw [List.lookup_cons]
  by_cases h : k = a
  · subst h
    simp
  · have : (k == a) = false := by simpa using h
    rw [this, if_neg h]
/-! ### the mirror: a saying, a wood -/
structure Row where
  who : Str
  under : Int
  text : Str
  time : Int
  votes : List (Str × Int)
  struck : Bool
def Row.ups (r : Row) : Int := ((r.votes.filter fun p => decide (0 < p.2)).length : Nat)
def Row.downs (r : Row) : Int := ((r.votes.filter fun p => decide (p.2 < 0)).length : Nat)
def Row.points (r : Row) : Int := r.ups - r.downs
def Row.told (r : Row) : Option Str := if r.struck then none else some r.text
inductive Er where
  | name | no | text | full | yours | number | deed | nothing | kin
  deriving DecidableEq
def Er.cls : Er → Str
  | .name => "BadName" | .no => "NoSaying" | .text => "BadText" | .full => "Full" | .yours => "NotYours" | .number => "BadNumber" | .deed => "BadDeed" | .nothing => "Nothing" | .kin => "NotKin"
/-- the wish of a refusal -/
abbrev Bad (K : PySem.W.Frag) (E : XK) (e : Er) (H : Hp) : Prop := E (.ref (He.ga K e.cls)) none H
def sayFs (r : Row) (v : Addr) : List (Str × V) := [("by", .str r.who), ("under", .int r.under), ("text", .str r.text), ("time", .int r.time), ("votes", .ref v), ("is_struck", .bl r.struck)]
def woodFs (d : Addr) (c k : Int) : List (Str × V) := [("sayings", .ref d), ("came", .int c), ("clock", .int k)]
section
variable (r : Row) (v d : Addr) (c k : Int)
theorem fs_by : (sayFs r v).lookup (Str.ofString "by") = some (.str r.who) := by simp [sayFs, lookup_if, ofString_inj]
theorem fs_under : (sayFs r v).lookup (Str.ofString "under") = some (.int r.under) := by simp [sayFs, lookup_if, ofString_inj]
theorem fs_text : (sayFs r v).lookup (Str.ofString "text") = some (.str r.text) := by simp [sayFs, lookup_if, ofString_inj]
theorem fs_time : (sayFs r v).lookup (Str.ofString "time") = some (.int r.time) := by simp [sayFs, lookup_if, ofString_inj]
theorem fs_votes : (sayFs r v).lookup (Str.ofString "votes") = some (.ref v) := by simp [sayFs, lookup_if, ofString_inj]
theorem fs_struck : (sayFs r v).lookup (Str.ofString "is_struck") = some (.bl r.struck) := by simp [sayFs, lookup_if, ofString_inj]
theorem fs_ups : (sayFs r v).lookup (Str.ofString "ups") = none := by simp [sayFs, lookup_if, ofString_inj]
theorem fs_downs : (sayFs r v).lookup (Str.ofString "downs") = none := by simp [sayFs, lookup_if, ofString_inj]
theorem fs_points : (sayFs r v).lookup (Str.ofString "points") = none := by simp [sayFs, lookup_if, ofString_inj]
theorem fp_text (t : Str) : putF (Str.ofString "text") (.str t) (sayFs r v) = sayFs { r with text := t } v := by simp [sayFs, putF, ofString_inj]
theorem fp_struck (b : Bool) : putF (Str.ofString "is_struck") (.bl b) (sayFs r v) = sayFs { r with struck := b } v := by simp [sayFs, putF, ofString_inj]
theorem fp_votes (u : Addr) (vs : List (Str × Int)) : putF (Str.ofString "votes") (.ref u) (sayFs r v) = sayFs { r with votes := vs } u := by simp [sayFs, putF, ofString_inj]
theorem fs_len : (sayFs r v).length = 6 := rfl
theorem fw_sayings : (woodFs d c k).lookup (Str.ofString "sayings") = some (.ref d) := by simp [woodFs, lookup_if, ofString_inj]
theorem fw_came : (woodFs d c k).lookup (Str.ofString "came") = some (.int c) := by simp [woodFs, lookup_if, ofString_inj]
theorem fw_clock : (woodFs d c k).lookup (Str.ofString "clock") = some (.int k) := by simp [woodFs, lookup_if, ofString_inj]
theorem fpw_came (z : Int) : putF (Str.ofString "came") (.int z) (woodFs d c k) = woodFs d z k := by simp [woodFs, putF, ofString_inj]
theorem fpw_clock (z : Int) : putF (Str.ofString "clock") (.int z) (woodFs d c k) = woodFs d c z := by simp [woodFs, putF, ofString_inj]
theorem fw_len : (woodFs d c k).length = 3 := rfl
end
theorem fw_no (d : Addr) (c k : Int) {m : String} (h1 : m ≠ "sayings") (h2 : m ≠ "came") (h3 : m ≠ "clock") : (woodFs d c k).lookup (Str.ofString m) = none := by
  simp [woodFs, lookup_if, ofString_inj, h1, h2, h3]
/-! ### names and texts -/
def small : List Nat := (Str.ofString "abcdefghijklmnopqrstuvwxyz").cps.toList
def nameZ (z : Str) : Bool := decide (1 ≤ z.length) && decide (z.length ≤ 6) && z.cps.toList.all fun c => decide (c ∈ small)
def signOk (c : Nat) : Bool := decide (32 ≤ c) && decide (c ≤ 126) && decide (c ≠ 37)
def textZ (z : Str) : Bool := decide (1 ≤ z.length) && decide (z.length ≤ 30) && z.cps.toList.all signOk
def nameOk : PyData → Bool
  | .str z => nameZ z
  | _ => false
def textOk : PyData → Bool
  | .str z => textZ z
  | _ => false
/-- a text is not too long for the machine -/
def Short : PyData → Prop
  | .str z => z.length < sizeLine
  | _ => True
def isCount (d : PyData) (lo hi : Int) : Bool := match d with
  | .int i => decide (lo ≤ i) && decide (i ≤ hi)
  | _ => false
end Vw
namespace Vw
open PySem PySem.Spec PyProof.Rows L2
/-! ### rows by numbers, what is above and below -/
abbrev Rows := List (Int × Row)
def findR (rs : Rows) (n : Int) : Option Row := (rs.find? fun p => decide (p.1 = n)).map (·.2)
def upR (rs : Rows) (n : Int) : Int := ((findR rs n).map (·.under)).getD 0
def aboveR (rs : Rows) (n : Int) : List Int := if h : 0 < n ∧ 0 ≤ upR rs n ∧ upR rs n < n then upR rs n :: aboveR rs (upR rs n) else []
termination_by n.toNat
decreasing_by omega
structure Wf (rs : Rows) : Prop where
  nk : (rs.map (·.1)).Nodup
  pos : ∀ p ∈ rs, 0 < p.1
  u0 : ∀ p ∈ rs, 0 ≤ p.2.under
  ult : ∀ p ∈ rs, p.2.under < p.1
  has : ∀ p ∈ rs, p.2.under = 0 ∨ ∃ r, findR rs p.2.under = some r
theorem findR_mem {rs : Rows} {n : Int} {r : Row} (h : findR rs n = some r) : (n, r) ∈ rs := by
  unfold findR at h
  cases e : rs.find? fun p => decide (p.1 = n) with
  | none => rw [e] at h; cases h
  | some p =>
    rw [e] at h
    have h1 := List.mem_of_find?_eq_some e
    have h2 := List.find?_some e
    simp only [decide_eq_true_eq] at h2
    simp only [Option.map_some, Option.some.injEq] at h
    rw [← h, ← h2]
    exact h1
theorem findR_of {rs : Rows} (nk : (rs.map (·.1)).Nodup) {n : Int} {r : Row} (h : (n, r) ∈ rs) : findR rs n = some r := by
  induction rs with
  | nil => cases h
  | cons q t ih =>
    simp only [List.map_cons, List.nodup_cons] at nk
    unfold findR
    rw [List.find?_cons]
    rcases List.mem_cons.mp h with rfl | h
    · simp
    · have hn : ¬ q.1 = n := fun z => nk.1 (List.mem_map.mpr ⟨(n, r), h, z.symm⟩)
      simp only [hn, decide_false]
      exact ih nk.2 h
theorem findR_none {rs : Rows} {n : Int} : findR rs n = none ↔ ∀ p ∈ rs, p.1 ≠ n := by
  unfold findR
  rw [Option.map_eq_none_iff, List.find?_eq_none]
  simp
section
variable {rs : Rows} (F : Wf rs)
include F
theorem Wf.up {n : Int} {r : Row} (h : findR rs n = some r) : upR rs n = r.under ∧ 0 < n ∧ 0 ≤ r.under ∧ r.under < n := by
  have m := findR_mem h
  refine ⟨by unfold upR; rw [h]; rfl, F.pos _ m, F.u0 _ m, F.ult _ m⟩
theorem Wf.above {n : Int} {r : Row} (h : findR rs n = some r) : aboveR rs n = r.under :: aboveR rs r.under := by
  obtain ⟨e, h1, h2, h3⟩ := F.up h
  rw [aboveR, dif_pos (by rw [e]; exact ⟨h1, h2, h3⟩), e]
end
theorem above_zero (rs : Rows) : aboveR rs 0 = [] := by
  rw [aboveR, dif_neg (by omega)]
/-- all above a saying is less, and is 0 or there -/
theorem Wf.above_lt {rs : Rows} (F : Wf rs) : ∀ (k : Nat) (n : Int), n.toNat ≤ k → ∀ m ∈ aboveR rs n, 0 ≤ m ∧ m < n ∧ (m = 0 ∨ ∃ r, findR rs m = some r)
  | k, n, hk, m, hm => by
    rw [aboveR] at hm
    split at hm
    · rename_i h
      rcases List.mem_cons.mp hm with rfl | hm
      · refine ⟨h.2.1, h.2.2, ?_⟩
        cases e : findR rs n with
        | none =>
          left
          unfold upR
          rw [e]
          rfl
        | some r =>
          rw [(F.up e).1]
          exact F.has _ (findR_mem e)
      · cases k with
        | zero => omega
        | succ k =>
          obtain ⟨h1, h2, h3⟩ := Wf.above_lt F k (upR rs n) (by omega) m hm
          exact ⟨h1, by omega, h3⟩
    · cases hm
/-- what is under one, at any depth: all for 0 -/
def beneathR (rs : Rows) (n : Int) : List Int := (rs.map (·.1)).filter fun m => decide (n ∈ aboveR rs m)
def repliesR (rs : Rows) (n : Int) : List Int := (rs.filter fun p => decide (p.2.under = n)).map (·.1)
def deepI (rs : Rows) (n : Int) : Nat := (aboveR rs n).length - 1
structure Wd where
  rows : Rows
  came : Int
  clock : Int
def sayingM (M : Wd) (d : PyData) : Option (Int × Row) := match d with
  | .int n => if 1 ≤ n ∧ n ≤ M.came then (findR M.rows n).map fun r => (n, r) else none
  | _ => none
def underOk (M : Wd) : PyData → Bool
  | .int n => decide (n = 0) || (decide (1 ≤ n) && decide (n ≤ M.came) && (findR M.rows n).isSome)
  | _ => false
def sayM (M : Wd) (b u t : PyData) : Except Er (Int × Wd) :=
  if nameOk b = false then .error .name else if underOk M u = false then .error .no else if textOk t = false then .error .text else match b, u, t with
  | .str who, .int n, .str text => if 60 ≤ M.rows.length ∨ (n ≠ 0 ∧ 8 ≤ deepI M.rows n + 1) then .error .full
    else .ok (M.came + 1, ⟨M.rows ++ [(M.came + 1, ⟨who, n, text, M.clock, [], false⟩)], M.came + 1, M.clock⟩)
  | _, _, _ => .error .name
def isS : PyData → Str → Bool
  | .str z, w => decide (z = w)
  | _, _ => false
def ownM (M : Wd) (d b : PyData) : Except Er (Int × Row) := match sayingM M d with
  | none => .error .no
  | some (n, r) => if nameOk b = false then .error .name else if isS b r.who = true ∧ r.struck = false then .ok (n, r) else .error .yours
def setR (rs : Rows) (n : Int) (r : Row) : Rows := rs.map fun p => if p.1 = n then (n, r) else p
def changeM (M : Wd) (d b t : PyData) : Except Er Wd := match ownM M d b with
  | .error e => .error e
  | .ok (n, r) => match t with
    | .str z => if textZ z then .ok { M with rows := setR M.rows n { r with text := z } } else .error .text
    | _ => .error .text
def dropR (rs : Rows) (n : Int) : Rows := rs.filter fun p => decide (p.1 ≠ n)
/-- struck ones without anything under them go, from n upwards: what is left, how many went -/
def goneR (rs : Rows) (n : Int) : Rows × Int := match findR rs n with
  | none => (rs, 0)
  | some r => if h : 0 < n ∧ 0 ≤ r.under ∧ r.under < n ∧ r.struck = true ∧ repliesR rs n = [] then let g := goneR (dropR rs n) r.under; (g.1, g.2 + 1) else (rs, 0)
termination_by n.toNat
decreasing_by omega
def strikeM (M : Wd) (d b : PyData) : Except Er (Int × Wd) := match ownM M d b with
  | .error e => .error e
  | .ok (n, r) => .ok ((goneR (setR M.rows n { r with struck := true }) n).2, { M with rows := (goneR (setR M.rows n { r with struck := true }) n).1 })
/-- votes behind a vote -/
def votesM (vs : List (Str × Int)) (who : Str) (way : Int) : List (Str × Int) :=
  let us := vs.filter fun p => decide (p.1 ≠ who)
  if way = 0 then us else us ++ [(who, way)]
def voteM (M : Wd) (d b wy : PyData) : Except Er (Int × Wd) := match sayingM M d with
  | none => .error .no
  | some (n, r) => if nameOk b = false then .error .name else if isCount wy (-1) 1 = false then .error .number else match b, wy with
    | .str who, .int way => if r.who = who ∨ r.struck = true then .error .yours else
      .ok (Row.points { r with votes := votesM r.votes who way }, { M with rows := setR M.rows n { r with votes := votesM r.votes who way } })
    | _, _ => .error .name
def standingM (M : Wd) (who : Str) : Int := ((M.rows.filter fun p => decide (p.2.who = who) && !p.2.struck).map fun p => p.2.points).sum
end Vw
namespace Vw
open PySem PySem.Spec PyProof.Rows L2
/-! ### above and below: the mathematics -/
theorem above_lt {rs : Rows} (F : Wf rs) {n m : Int} (h : m ∈ aboveR rs n) : 0 ≤ m ∧ m < n ∧ (m = 0 ∨ ∃ r, findR rs m = some r) := F.above_lt n.toNat n (Nat.le_refl _) m h
theorem above_trans {rs : Rows} (F : Wf rs) : ∀ (k : Nat) {x c m : Int}, x.toNat ≤ k → c ∈ aboveR rs x → m ∈ aboveR rs c → m ∈ aboveR rs x
  | k, x, c, m, hk, hc, hm => by
    rw [aboveR] at hc
    split at hc
    · rename_i h
      rw [aboveR, dif_pos h]
      rcases List.mem_cons.mp hc with rfl | hc
      · exact List.mem_cons_of_mem _ hm
      · cases k with
        | zero => omega
        | succ k => exact List.mem_cons_of_mem _ (above_trans F k (by omega) hc hm)
    · cases hc
/-- the way up is one: of two on it the lesser one is above the greater one -/
theorem above_one {rs : Rows} (F : Wf rs) : ∀ (k : Nat) {x c1 c2 : Int}, x.toNat ≤ k → (c1 = x ∨ c1 ∈ aboveR rs x) → (c2 = x ∨ c2 ∈ aboveR rs x) → c2 < c1 → c2 ∈ aboveR rs c1
  | k, x, c1, c2, hk, h1, h2, hlt => by
    rcases h1 with rfl | h1
    · rcases h2 with rfl | h2
      · omega
      · exact h2
    · have l1 := above_lt F h1
      rcases h2 with rfl | h2
      · omega
      · rw [aboveR] at h1 h2
        split at h1
        · rename_i h
          rw [dif_pos h] at h2
          cases k with
          | zero => omega
          | succ k => exact above_one F k (x := upR rs x) (by omega) (List.mem_cons.mp h1) (List.mem_cons.mp h2) hlt
        · cases h1
theorem mem_keys {rs : Rows} {n : Int} : n ∈ rs.map (·.1) ↔ ∃ r, (n, r) ∈ rs := by simp
theorem mem_replies {rs : Rows} {c n : Int} : c ∈ repliesR rs n ↔ ∃ r, (c, r) ∈ rs ∧ r.under = n := by
  unfold repliesR
  simp only [List.mem_map, List.mem_filter, decide_eq_true_eq]
  constructor
  · rintro ⟨p, ⟨h1, h2⟩, rfl⟩
    exact ⟨p.2, h1, h2⟩
  · rintro ⟨r, h1, h2⟩
    exact ⟨(c, r), ⟨h1, h2⟩, rfl⟩
theorem mem_beneath {rs : Rows} {m n : Int} : m ∈ beneathR rs n ↔ (∃ r, (m, r) ∈ rs) ∧ n ∈ aboveR rs m := by
  unfold beneathR
  rw [List.mem_filter, mem_keys]
  simp
theorem reply_above {rs : Rows} (F : Wf rs) {c n : Int} (h : c ∈ repliesR rs n) : aboveR rs c = n :: aboveR rs n := by
  obtain ⟨r, h1, h2⟩ := mem_replies.mp h
  rw [F.above (findR_of F.nk h1), h2]
/-- from x up to n there is one right under n -/
theorem above_child {rs : Rows} (F : Wf rs) : ∀ (k : Nat) {x n : Int}, x.toNat ≤ k → (∃ r, findR rs x = some r) → n ∈ aboveR rs x → ∃ c ∈ repliesR rs n, c = x ∨ c ∈ aboveR rs x
  | k, x, n, hk, ⟨r, hr⟩, h => by
    have ab := F.above hr
    obtain ⟨e, p1, p2, p3⟩ := F.up hr
    rw [ab] at h
    rcases List.mem_cons.mp h with rfl | h
    · exact ⟨x, mem_replies.mpr ⟨r, findR_mem hr, rfl⟩, .inl rfl⟩
    · rcases F.has _ (findR_mem hr) with z | ⟨r', hr'⟩
      · have z : r.under = 0 := z
        rw [z, above_zero] at h
        cases h
      · cases k with
        | zero => omega
        | succ k =>
          obtain ⟨c, hc, h'⟩ := above_child F k (x := r.under) (by omega) ⟨r', hr'⟩ h
          refine ⟨c, hc, .inr ?_⟩
          rw [ab]
          rcases h' with rfl | h'
          · exact List.mem_cons_self
          · exact List.mem_cons_of_mem _ h'
theorem nodup_replies {rs : Rows} (nk : (rs.map (·.1)).Nodup) (n : Int) : (repliesR rs n).Nodup := by
  unfold repliesR
  exact nk.sublist (List.Sublist.map _ List.filter_sublist)
theorem nodup_beneath {rs : Rows} (nk : (rs.map (·.1)).Nodup) (n : Int) : (beneathR rs n).Nodup := nk.sublist List.filter_sublist
theorem beneath_step {rs : Rows} (F : Wf rs) (n : Int) : ((repliesR rs n).flatMap fun c => c :: beneathR rs c).Perm (beneathR rs n) := by
  rw [List.perm_ext_iff_of_nodup]
  · intro x
    simp only [List.mem_flatMap, List.mem_cons, mem_beneath]
    constructor
    · rintro ⟨c, hc, rfl | ⟨hx, hcx⟩⟩
      · obtain ⟨r, h1, _⟩ := mem_replies.mp hc
        exact ⟨⟨r, h1⟩, by rw [reply_above F hc]; exact List.mem_cons_self⟩
      · exact ⟨hx, above_trans F _ (Nat.le_refl _) hcx (by rw [reply_above F hc]; exact List.mem_cons_self)⟩
    · rintro ⟨⟨r, hr⟩, h⟩
      obtain ⟨c, hc, h'⟩ := above_child F _ (Nat.le_refl _) ⟨r, findR_of F.nk hr⟩ h
      rcases h' with rfl | h'
      · exact ⟨c, hc, .inl rfl⟩
      · exact ⟨c, hc, .inr ⟨⟨r, hr⟩, h'⟩⟩
  · unfold List.Nodup
    rw [List.pairwise_flatMap]
    constructor
    · intro c hc
      refine List.pairwise_cons.mpr ⟨fun m hm => ?_, nodup_beneath F.nk c⟩
      have := (above_lt F (mem_beneath.mp hm).2).2.1
      omega
    · refine (nodup_replies F.nk n).imp_of_mem fun {a b} ha hb hab x hx y hy => ?_
      rintro rfl
      have sa : a = x ∨ a ∈ aboveR rs x := by
        rcases List.mem_cons.mp hx with h | h
        · exact .inl h.symm
        · exact .inr (mem_beneath.mp h).2
      have sb : b = x ∨ b ∈ aboveR rs x := by
        rcases List.mem_cons.mp hy with h | h
        · exact .inl h.symm
        · exact .inr (mem_beneath.mp h).2
      have ga := reply_above F ha
      have gb := reply_above F hb
      have la : n < a := (above_lt F (show n ∈ aboveR rs a by rw [ga]; exact List.mem_cons_self)).2.1
      have lb : n < b := (above_lt F (show n ∈ aboveR rs b by rw [gb]; exact List.mem_cons_self)).2.1
      rcases Int.lt_trichotomy a b with h | h | h
      · have z := above_one F _ (Nat.le_refl _) sb sa h
        rw [gb] at z
        rcases List.mem_cons.mp z with z | z
        · omega
        · have := (above_lt F z).2.1
          omega
      · exact hab h
      · have z := above_one F _ (Nat.le_refl _) sa sb h
        rw [ga] at z
        rcases List.mem_cons.mp z with z | z
        · omega
        · have := (above_lt F z).2.1
          omega
  · exact nodup_beneath F.nk n
/-- a wood that can be -/
structure Good (M : Wd) : Prop where
  wf : Wf M.rows
  le : ∀ p ∈ M.rows, p.1 ≤ M.came
  dp : ∀ p ∈ M.rows, (aboveR M.rows p.1).length ≤ 8
  len : M.rows.length ≤ 60
theorem Good.dp0 {M : Wd} (G : Good M) {n : Int} (h : n = 0 ∨ ∃ r, findR M.rows n = some r) : (aboveR M.rows n).length ≤ 8 := by
  rcases h with rfl | ⟨r, h⟩
  · rw [above_zero]
    decide
  · exact G.dp _ (findR_mem h)
theorem Wf.find0 {rs : Rows} (F : Wf rs) : findR rs 0 = none := by
  rw [findR_none]
  intro p hp e
  have := F.pos p hp
  omega
/-! ### a row set, a row gone -/
theorem setR_keys (rs : Rows) (n : Int) (r : Row) : (setR rs n r).map (·.1) = rs.map (·.1) := by
  unfold setR
  rw [List.map_map]
  apply List.map_congr_left
  intro p _
  show (if p.1 = n then (n, r) else p).1 = p.1
  split
  · rename_i h
    exact h.symm
  · rfl
theorem findR_setR (rs : Rows) (n m : Int) (r : Row) : findR (setR rs n r) m = if m = n then (findR rs n).map fun _ => r else findR rs m := by
  unfold findR setR
  rw [List.find?_map]
  by_cases h : m = n
  · subst h
    rw [if_pos rfl]
    have : ((fun p : Int × Row => decide (p.1 = m)) ∘ fun p : Int × Row => if p.1 = m then (m, r) else p) = fun p => decide (p.1 = m) := by
      funext p
      show decide ((if p.1 = m then (m, r) else p).1 = m) = decide (p.1 = m)
      by_cases c : p.1 = m <;> simp [c]
    rw [this]
    cases e : List.find? (fun p : Int × Row => decide (p.1 = m)) rs with
    | none => rfl
    | some p =>
      have := List.find?_some e
      simp only [decide_eq_true_eq] at this
      simp [this]
  · rw [if_neg h]
    have : ((fun p : Int × Row => decide (p.1 = m)) ∘ fun p : Int × Row => if p.1 = n then (n, r) else p) = fun p => decide (p.1 = m) := by
      funext p
      show decide ((if p.1 = n then (n, r) else p).1 = m) = decide (p.1 = m)
      by_cases c : p.1 = n
      · have h1 : ¬ n = m := fun z => h z.symm
        have h2 : ¬ p.1 = m := fun z => h (z.symm.trans c)
        simp [c, h1]
      · simp [c]
    rw [this]
    cases e : List.find? (fun p : Int × Row => decide (p.1 = m)) rs with
    | none => rfl
    | some p =>
      have := List.find?_some e
      simp only [decide_eq_true_eq] at this
      have : ¬ p.1 = n := fun z => h (this.symm.trans z)
      simp [this]
theorem findR_set {rs : Rows} (nk : (rs.map (·.1)).Nodup) {n : Int} {r r' : Row} (h : findR rs n = some r) : findR (setR rs n r') n = some r' := by
  rw [findR_setR, if_pos rfl, h]
  rfl
theorem mem_setR {rs : Rows} {n : Int} {r : Row} {p : Int × Row} (h : p ∈ setR rs n r) : (p = (n, r) ∧ ∃ r0, (n, r0) ∈ rs) ∨ (p ∈ rs ∧ p.1 ≠ n) := by
  obtain ⟨q, hq, e⟩ := List.mem_map.mp h
  by_cases c : q.1 = n
  · rw [if_pos c] at e
    refine .inl ⟨e.symm, q.2, ?_⟩
    rw [← c]
    exact hq
  · rw [if_neg c] at e
    subst e
    exact .inr ⟨hq, c⟩
theorem Wf.set {rs : Rows} (F : Wf rs) {n : Int} {r r' : Row} (h : findR rs n = some r) (hu : r'.under = r.under) : Wf (setR rs n r') := by
  have hm := findR_mem h
  refine ⟨by rw [setR_keys]; exact F.nk, fun p hp => ?_, fun p hp => ?_, fun p hp => ?_, fun p hp => ?_⟩
  · rcases mem_setR hp with ⟨rfl, _⟩ | ⟨hp, _⟩
    · have := F.pos _ hm
      exact this
    · exact F.pos _ hp
  · rcases mem_setR hp with ⟨rfl, _⟩ | ⟨hp, _⟩
    · show 0 ≤ r'.under
      rw [hu]
      exact F.u0 _ hm
    · exact F.u0 _ hp
  · rcases mem_setR hp with ⟨rfl, _⟩ | ⟨hp, _⟩
    · show r'.under < n
      rw [hu]
      exact F.ult _ hm
    · exact F.ult _ hp
  · have key : ∀ u : Int, (u = 0 ∨ ∃ z, findR rs u = some z) → (u = 0 ∨ ∃ z, findR (setR rs n r') u = some z) := fun u q => by
      rcases q with q | ⟨z, q⟩
      · exact .inl q
      · right
        rw [findR_setR]
        by_cases c : u = n
        · rw [if_pos c, h]
          exact ⟨_, rfl⟩
        · rw [if_neg c]
          exact ⟨z, q⟩
    rcases mem_setR hp with ⟨rfl, _⟩ | ⟨hp, _⟩
    · apply key
      show r'.under = 0 ∨ _
      rw [hu]
      exact F.has _ hm
    · exact key _ (F.has _ hp)
theorem findR_drop (rs : Rows) (n m : Int) : findR (dropR rs n) m = if m = n then none else findR rs m := by
  by_cases h : m = n
  · rw [if_pos h, findR_none]
    intro p hp e
    have := (List.mem_filter.mp hp).2
    simp only [decide_eq_true_eq] at this
    exact this (e.trans h)
  · rw [if_neg h]
    unfold findR dropR
    rw [List.find?_filter]
    congr 2
    funext p
    by_cases c : p.1 = m
    · have : ¬ p.1 = n := fun z => h (c.symm.trans z)
      simp [c, h]
    · simp [c]
theorem Wf.drop {rs : Rows} (F : Wf rs) {n : Int} (hn : repliesR rs n = []) : Wf (dropR rs n) := by
  have sub : (dropR rs n).Sublist rs := List.filter_sublist
  refine ⟨F.nk.sublist (sub.map _), fun p hp => F.pos p (sub.mem hp), fun p hp => F.u0 p (sub.mem hp), fun p hp => F.ult p (sub.mem hp), fun p hp => ?_⟩
  rcases F.has p (sub.mem hp) with h | ⟨r, h⟩
  · exact .inl h
  · right
    have : ¬ p.2.under = n := fun z => by
      have q : p.1 ∈ repliesR rs n := mem_replies.mpr ⟨p.2, sub.mem hp, z⟩
      rw [hn] at q
      cases q
    rw [findR_drop, if_neg this]
    exact ⟨r, h⟩
end Vw
namespace Vw
open PySem PySem.Spec PyProof.Rows L2
def top (i : Nat) : Stmt := PySem.Challenge.pw_votewood_k13_whole_votes_once.main.body.getD i (.Pass ⟨0, 0, 0, 0⟩)
abbrev s__wall : Stmt := top 0
abbrev s_is_count : Stmt := top 19
abbrev s_need_name : Stmt := top 20
abbrev s_need_text : Stmt := top 21
abbrev s_Saying___init__ : Stmt := inClass (top 22) 0
abbrev s_Saying_ups : Stmt := inClass (top 22) 1
abbrev s_Saying_downs : Stmt := inClass (top 22) 2
abbrev s_Saying_points : Stmt := inClass (top 22) 3
abbrev s_Wood___init__ : Stmt := inClass (top 23) 0
abbrev s_Wood_now : Stmt := inClass (top 23) 1
abbrev s_Wood_tick : Stmt := inClass (top 23) 2
abbrev s_Wood_saying : Stmt := inClass (top 23) 3
abbrev s_Wood_numbers : Stmt := inClass (top 23) 4
abbrev s_Wood_deep : Stmt := inClass (top 23) 5
abbrev s_Wood_say : Stmt := inClass (top 23) 6
abbrev s_Wood_look : Stmt := inClass (top 23) 7
abbrev s_Wood_own : Stmt := inClass (top 23) 8
abbrev s_Wood_change : Stmt := inClass (top 23) 9
abbrev s_Wood_replies : Stmt := inClass (top 23) 10
abbrev s_Wood_strike : Stmt := inClass (top 23) 11
abbrev s_Wood_vote : Stmt := inClass (top 23) 12
abbrev s_Wood_votes_of : Stmt := inClass (top 23) 13
abbrev s_Wood_below : Stmt := inClass (top 23) 14
abbrev s_Wood_many : Stmt := inClass (top 23) 15
abbrev s_Wood_standing : Stmt := inClass (top 23) 16
abbrev s__law_cell : Stmt := top 25
abbrev s__law_drawn : Stmt := top 26
abbrev s__law_word : Stmt := top 27
abbrev s__law_told : Stmt := top 28
abbrev s_law : Stmt := top 29
abbrev errs : List Str := ["BadName", "NoSaying", "BadText", "Full", "NotYours", "BadNumber", "BadDeed", "Nothing", "NotKin"]
abbrev tabs (K : PySem.W.Frag) : List (Addr × Str) := [((He.cT K ("law", none)).2, "law.<locals>.<lambda>")]
structure Txt (K : PySem.W.Frag) (mg : Str → Option Value) (base : Heap) : Prop where
  x_WoodError : Exc K mg "WoodError"
  x_BadName : Exc K mg "BadName"
  x_NoSaying : Exc K mg "NoSaying"
  x_BadText : Exc K mg "BadText"
  x_Full : Exc K mg "Full"
  x_NotYours : Exc K mg "NotYours"
  x_BadNumber : Exc K mg "BadNumber"
  x_BadDeed : Exc K mg "BadDeed"
  x_Nothing : Exc K mg "Nothing"
  x_NotKin : Exc K mg "NotKin"
  c_Saying : Own K mg "Saying"
  n_Saying_by : NoAttr K (He.ga K "Saying") "by"
  n_Saying_under : NoAttr K (He.ga K "Saying") "under"
  n_Saying_text : NoAttr K (He.ga K "Saying") "text"
  n_Saying_time : NoAttr K (He.ga K "Saying") "time"
  n_Saying_votes : NoAttr K (He.ga K "Saying") "votes"
  n_Saying_is_struck : NoAttr K (He.ga K "Saying") "is_struck"
  c_Wood : Own K mg "Wood"
  n_Wood_sayings : NoAttr K (He.ga K "Wood") "sayings"
  n_Wood_came : NoAttr K (He.ga K "Wood") "came"
  n_Wood_clock : NoAttr K (He.ga K "Wood") "clock"
  g_is_count : mg "is_count" = some (.ref (He.ga K "is_count"))
  f_is_count : Is K "is_count" "is_count" s_is_count (He.ga K "is_count")
  g_need_name : mg "need_name" = some (.ref (He.ga K "need_name"))
  f_need_name : Is K "need_name" "need_name" s_need_name (He.ga K "need_name")
  g_need_text : mg "need_text" = some (.ref (He.ga K "need_text"))
  f_need_text : Is K "need_text" "need_text" s_need_text (He.ga K "need_text")
  f_Saying___init__ : Is K "__init__" "Saying.__init__" s_Saying___init__ (He.ma K (He.ga K "Saying") "__init__")
  m_Saying_ups : Meth K (He.ga K "Saying") "ups" (He.ma K (He.ga K "Saying") "ups")
  f_Saying_ups : Is K "ups" "Saying.ups" s_Saying_ups (He.ma K (He.ga K "Saying") "ups")
  m_Saying_downs : Meth K (He.ga K "Saying") "downs" (He.ma K (He.ga K "Saying") "downs")
  f_Saying_downs : Is K "downs" "Saying.downs" s_Saying_downs (He.ma K (He.ga K "Saying") "downs")
  m_Saying_points : Meth K (He.ga K "Saying") "points" (He.ma K (He.ga K "Saying") "points")
  f_Saying_points : Is K "points" "Saying.points" s_Saying_points (He.ma K (He.ga K "Saying") "points")
  f_Wood___init__ : Is K "__init__" "Wood.__init__" s_Wood___init__ (He.ma K (He.ga K "Wood") "__init__")
  m_Wood_saying : Meth K (He.ga K "Wood") "saying" (He.ma K (He.ga K "Wood") "saying")
  f_Wood_saying : Is K "saying" "Wood.saying" s_Wood_saying (He.ma K (He.ga K "Wood") "saying")
  m_Wood_numbers : Meth K (He.ga K "Wood") "numbers" (He.ma K (He.ga K "Wood") "numbers")
  f_Wood_numbers : Is K "numbers" "Wood.numbers" s_Wood_numbers (He.ma K (He.ga K "Wood") "numbers")
  m_Wood_deep : Meth K (He.ga K "Wood") "deep" (He.ma K (He.ga K "Wood") "deep")
  f_Wood_deep : Is K "deep" "Wood.deep" s_Wood_deep (He.ma K (He.ga K "Wood") "deep")
  m_Wood_say : Meth K (He.ga K "Wood") "say" (He.ma K (He.ga K "Wood") "say")
  f_Wood_say : Is K "say" "Wood.say" s_Wood_say (He.ma K (He.ga K "Wood") "say")
  m_Wood_look : Meth K (He.ga K "Wood") "look" (He.ma K (He.ga K "Wood") "look")
  f_Wood_look : Is K "look" "Wood.look" s_Wood_look (He.ma K (He.ga K "Wood") "look")
  m_Wood_own : Meth K (He.ga K "Wood") "own" (He.ma K (He.ga K "Wood") "own")
  f_Wood_own : Is K "own" "Wood.own" s_Wood_own (He.ma K (He.ga K "Wood") "own")
  m_Wood_change : Meth K (He.ga K "Wood") "change" (He.ma K (He.ga K "Wood") "change")
  f_Wood_change : Is K "change" "Wood.change" s_Wood_change (He.ma K (He.ga K "Wood") "change")
  m_Wood_replies : Meth K (He.ga K "Wood") "replies" (He.ma K (He.ga K "Wood") "replies")
  f_Wood_replies : Is K "replies" "Wood.replies" s_Wood_replies (He.ma K (He.ga K "Wood") "replies")
  m_Wood_strike : Meth K (He.ga K "Wood") "strike" (He.ma K (He.ga K "Wood") "strike")
  f_Wood_strike : Is K "strike" "Wood.strike" s_Wood_strike (He.ma K (He.ga K "Wood") "strike")
  m_Wood_vote : Meth K (He.ga K "Wood") "vote" (He.ma K (He.ga K "Wood") "vote")
  f_Wood_vote : Is K "vote" "Wood.vote" s_Wood_vote (He.ma K (He.ga K "Wood") "vote")
  m_Wood_votes_of : Meth K (He.ga K "Wood") "votes_of" (He.ma K (He.ga K "Wood") "votes_of")
  f_Wood_votes_of : Is K "votes_of" "Wood.votes_of" s_Wood_votes_of (He.ma K (He.ga K "Wood") "votes_of")
  m_Wood_below : Meth K (He.ga K "Wood") "below" (He.ma K (He.ga K "Wood") "below")
  f_Wood_below : Is K "below" "Wood.below" s_Wood_below (He.ma K (He.ga K "Wood") "below")
  m_Wood_many : Meth K (He.ga K "Wood") "many" (He.ma K (He.ga K "Wood") "many")
  f_Wood_many : Is K "many" "Wood.many" s_Wood_many (He.ma K (He.ga K "Wood") "many")
  m_Wood_standing : Meth K (He.ga K "Wood") "standing" (He.ma K (He.ga K "Wood") "standing")
  f_Wood_standing : Is K "standing" "Wood.standing" s_Wood_standing (He.ma K (He.ga K "Wood") "standing")
  g__law_cell : mg "_law_cell" = some (.ref (He.ga K "_law_cell"))
  f__law_cell : Is K "_law_cell" "_law_cell" s__law_cell (He.ga K "_law_cell")
  g__law_drawn : mg "_law_drawn" = some (.ref (He.ga K "_law_drawn"))
  f__law_drawn : Is K "_law_drawn" "_law_drawn" s__law_drawn (He.ga K "_law_drawn")
  g__law_word : mg "_law_word" = some (.ref (He.ga K "_law_word"))
  f__law_word : Is K "_law_word" "_law_word" s__law_word (He.ga K "_law_word")
  g__law_told : mg "_law_told" = some (.ref (He.ga K "_law_told"))
  f__law_told : Is K "_law_told" "_law_told" s__law_told (He.ga K "_law_told")
  g_law : mg "law" = some (.ref (He.ga K "law"))
  f_law : Is K "law" "law" s_law (He.ga K "law")
  b_ValueError : mg "ValueError" = none
  b_all : mg "all" = none
  b_bool : mg "bool" = none
  b_int : mg "int" = none
  b_isinstance : mg "isinstance" = none
  b_len : mg "len" = none
  b_max : mg "max" = none
  b_min : mg "min" = none
  b_ord : mg "ord" = none
  b_range : mg "range" = none
  b_sorted : mg "sorted" = none
  b_str : mg "str" = none
  b_sum : mg "sum" = none
  k_SMALL : GK mg "SMALL" (.str "abcdefghijklmnopqrstuvwxyz")
  k_MOST_WORD : GK mg "MOST_WORD" (.int 6)
  k_MOST_TEXT : GK mg "MOST_TEXT" (.int 30)
  k_MOST_SAYINGS : GK mg "MOST_SAYINGS" (.int 60)
  k_MOST_DEEP : GK mg "MOST_DEEP" (.int 8)
  k_BARRED : GK mg "BARRED" (.int 37)
  wd : Word K errs
  tb_law : LamX.TabB base mg (He.cT K ("law", none)).1 (He.cT K ("law", none)).2
end Vw
namespace Vw
open PySem PySem.Spec PyProof.Rows L2
local macro_rules | `(tactic| walk_at "rd") => `(tactic| simp only [tSeq, tNext, tIfS, tAsg, tRet, tRetN, tDrop, tVar, tC, tOp, tUn, tTest, tB, tAnd, tOr, tNot, tAndV, tOrV, tNotV, tIf, tChain, tCB, tCons, tNil, tCall, tMeth, tMake, tFld, sFld, tTup, tLst, tCmp, t2I, tIsN, tNotN, tPar, gName, gNil, gCons, gTup, gSub, rI0, rU, rEq, rNe, tDGet, tDIn, tDNotIn, sDPut, tDNewK, tDGet1, tDGet2, tDPop1, tDPop2, tBM, tBM0, tM0, tM1, tSl, tPart, tNoPart, tBreak, tCont, tThru, L2.start, List.map_cons, List.map_nil, List.length_cons, List.length_nil, List.cons_append, List.nil_append, List.append_nil, List.replicate_succ, List.replicate_zero, Nat.reduceAdd, Nat.reduceSub, Nat.zero_add, List.getElem?_cons_zero, List.getElem?_cons_succ, List.set_cons_zero, List.set_cons_succ, wipe, cxOf_K, tYes, List.cons.injEq, and_self, Option.some.injEq, V.int.injEq, V.bl.injEq, V.ref.injEq, V.str.injEq, exists_eq_left', exists_eq_left, exists_and_left, and_assoc, true_and, and_true, if_true, if_false, ite_true, ite_false, Bool.not_true, Bool.not_false, Bool.false_eq_true, reduceIte])
/-! ### any data by its kind -/
def tyName : PyData → String
  | .none => "NoneType" | .bool _ => "bool" | .int _ => "int" | .str _ => "str" | .list _ => "list" | .tuple _ => "tuple" | .dict _ => "dict"
theorem dp_ty {K : PySem.W.Frag} {H : Hp} {x : V} {d : PyData} (h : Dp K H x d) : TyX K H x (.type (tyName d)) := by
  cases h with
  | non => exact .base .non
  | bl b => exact .base (.bl b)
  | int i => exact .base (.int i)
  | str z => exact .base (.str z)
  | lst hs _ =>
    rcases hs with (e | ⟨o, e⟩) | ⟨_, _, _, e, c, _⟩
    · exact .base (.lst e)
    · exact .base (.frz e)
    · exact .kList e c
  | tup hs _ =>
    rcases hs with (e | ⟨o, e⟩) | ⟨_, _, _, e, c, _⟩
    · exact .base (.tup e)
    · exact .fTuple e
    · exact .kTuple e c
def isIntD : PyData → Bool
  | .int _ => true | .bool _ => true | _ => false
def isBoolD : PyData → Bool
  | .bool _ => true | _ => false
def isStrD : PyData → Bool
  | .str _ => true | _ => false
theorem kit_int (d : PyData) : kitB (tyName d) "int" = some (isIntD d) := by
  cases d with
  | none => exact (show kitB "NoneType" "int" = some false by decide +kernel)
  | bool b => exact (show kitB "bool" "int" = some true by decide +kernel)
  | int i => exact (show kitB "int" "int" = some true by decide +kernel)
  | str z => exact (show kitB "str" "int" = some false by decide +kernel)
  | list z => exact (show kitB "list" "int" = some false by decide +kernel)
  | tuple z => exact (show kitB "tuple" "int" = some false by decide +kernel)
  | dict z => exact (show kitB "dict" "int" = some false by decide +kernel)
theorem kit_bool (d : PyData) : kitB (tyName d) "bool" = some (isBoolD d) := by
  cases d with
  | none => exact (show kitB "NoneType" "bool" = some false by decide +kernel)
  | bool b => exact (show kitB "bool" "bool" = some true by decide +kernel)
  | int i => exact (show kitB "int" "bool" = some false by decide +kernel)
  | str z => exact (show kitB "str" "bool" = some false by decide +kernel)
  | list z => exact (show kitB "list" "bool" = some false by decide +kernel)
  | tuple z => exact (show kitB "tuple" "bool" = some false by decide +kernel)
  | dict z => exact (show kitB "dict" "bool" = some false by decide +kernel)
theorem kit_str (d : PyData) : kitB (tyName d) "str" = some (isStrD d) := by
  cases d with
  | none => exact (show kitB "NoneType" "str" = some false by decide +kernel)
  | bool b => exact (show kitB "bool" "str" = some false by decide +kernel)
  | int i => exact (show kitB "int" "str" = some false by decide +kernel)
  | str z => exact (show kitB "str" "str" = some true by decide +kernel)
  | list z => exact (show kitB "list" "str" = some false by decide +kernel)
  | tuple z => exact (show kitB "tuple" "str" = some false by decide +kernel)
  | dict z => exact (show kitB "dict" "str" = some false by decide +kernel)
theorem use_isi {K : PySem.W.Frag} {H : Hp} {x : V} {d : PyData} {t : String} {b : Bool} {Q : VK} (hx : Dp K H x d) (hb : kitB (tyName d) t = some b) (q : Q (.bl b) H) : rIsi K [x, .ty t] H Q :=
  ⟨x, .ty t, _, _, b, rfl, .ty t, dp_ty hx, kit_ty hb, q⟩
/-! ### is_count -/
def spIsCount (K : PySem.W.Frag) : Sp := fun vs H Q _ => ∃ (x : V) (d : PyData) (lo hi : Int), vs = [x, .int lo, .int hi] ∧ Dp K H x d ∧ Q (.bl (isCount d lo hi)) H
section
variable {P : Program} {w : World} {K : PySem.W.Frag} {mg : Str → Option Value} {base : Heap}
abbrev N_is_count : List Str := ["thing", "low", "high"]
theorem sc_is_count : FnScope N_is_count ["thing", "low", "high"] (defScope s_is_count) := ⟨rfl, rfl, rfl, by decide +kernel, rfl, by decide +kernel, by decide +kernel⟩
theorem be_is_count : BindEq "is_count" "is_count" s_is_count ["thing", "low", "high"] := fun _ _ _ _ _ _ us hl => match us, hl with | [_, _, _], _ => rfl
theorem D_is_count (T : Txt K mg base) : Def P w K mg base 1 (He.ga K "is_count") ["thing", "low", "high"] (spIsCount K) := by
  refine mk_def T.f_is_count sc_is_count be_is_count (fun vs H Q E h => ?_) (fun cdv A outer s H vs Q E hr h => ?_)
  · obtain ⟨x, d, lo, hi, rfl, _⟩ := h
    rfl
  · obtain ⟨x, d, lo, hi, rfl, hx, q⟩ := h
    refine ⟨_, (pss_one (ps_ret (pe_and (pe_callB call_isi (by rfl) T.b_isinstance (by decide +kernel) (pa_cons (pv 0) (pa_cons (pe_bltn (v := .ty "int") (by rfl) T.b_int (by decide +kernel) rfl) pa_nil))) (pe_and (pe_not (pe_callB call_isi (by rfl) T.b_isinstance (by decide +kernel) (pa_cons (pv 0) (pa_cons (pe_bltn (v := .ty "bool") (by rfl) T.b_bool (by decide +kernel) rfl) pa_nil)))) (pe_one (pe_chain op_le op_le (pv 1) (pv 0) (pv 2))))))), ?_⟩
    walk_at "rd"
    refine use_isi hx (kit_int d) ⟨_, rfl, ?_⟩
    cases hx with
    | int i =>
      refine iteT (use_isi (.int i) (kit_bool _) ⟨_, rfl, iteT ⟨_, rfl, ?_⟩⟩)
      by_cases h1 : lo ≤ i
      · rw [decide_eq_true h1]
        refine iteT ⟨_, rfl, ?_⟩
        simpa [isCount, h1] using q
      · rw [decide_eq_false h1]
        refine iteF ?_
        simpa [isCount, h1] using q
    | bl b => exact iteT (use_isi (.bl b) (kit_bool _) ⟨_, rfl, iteF q⟩)
    | non => exact iteF q
    | str z => exact iteF q
    | lst _ _ => exact iteF q
    | tup _ _ => exact iteF q
/-! ### need_name, need_text -/
def spNeedName (K : PySem.W.Frag) : Sp := fun vs H Q E => ∃ (x : V) (d : PyData), vs = [x] ∧ Dp K H x d ∧ Short d ∧
  (nameOk d = true → ∀ H', Same H H' → Q .non H') ∧ (nameOk d = false → ∀ H', Same H H' → Bad K E .name H')
abbrev N_need_name : List Str := ["thing", "good", "sign"]
theorem sc_need_name : FnScope N_need_name ["thing"] (defScope s_need_name) := ⟨rfl, rfl, rfl, by decide +kernel, rfl, by decide +kernel, by decide +kernel⟩
theorem be_need_name : BindEq "need_name" "need_name" s_need_name ["thing"] := fun _ _ _ _ _ _ us hl => match us, hl with | [_], _ => rfl
theorem D_need_name (T : Txt K mg base) : Def P w K mg base 1 (He.ga K "need_name") ["thing"] (spNeedName K) := by
  refine mk_def T.f_need_name sc_need_name be_need_name (fun vs H Q E h => ?_) (fun cdv A outer s H vs Q E hr h => ?_)
  · obtain ⟨x, d, rfl, _⟩ := h
    rfl
  · obtain ⟨x, d, rfl, hx, hz, k1, k0⟩ := h
    refine ⟨_, (pss_cons (ps_set (i := 1) sc_need_name.nd rfl (Or.inl rfl) (pe_and (pe_callB call_isi (by rfl) T.b_isinstance (by decide +kernel) (pa_cons (pv 0) (pa_cons (pe_bltn (v := .ty "str") (by rfl) T.b_str (by decide +kernel) rfl) pa_nil))) (pe_one (pe_chain op_le op_le pe_int (pe_callB call_len_str (by rfl) T.b_len (by decide +kernel) (pa_cons (pv 0) pa_nil)) (pe_gk T.k_MOST_WORD)))))
      (pss_one (ps_if (PW.pt (pw_or (pt_not (pt_val (pv 1))) (pw_or1 (pt_not (pt_val (pe_callB (cr_all rfl) (by rfl) T.b_all (by decide +kernel) (pa_cons (pe_lc (own := [("sign", 2)]) (g := gName 2) rfl sc_need_name.nd (pi_str (pv 0)) (blkOk_by (N := N_need_name) (sc := defScope s_need_name) (by decide +kernel)) (fun _ _ _ _ _ => by exact (pg_name (i := 2) sc_need_name.nd rfl (Or.inl rfl))) (fun _ _ _ _ _ => pts_nil) (fun _ _ _ _ _ => by exact (pe_cmpR op_in_sign (pv 2) (pe_gk T.k_SMALL) rfl))) pa_nil))))))) (pss_one (ps_rs T.x_BadName)) pss_nil))), ?_⟩
    walk_at "rd"
    refine use_isi hx (kit_str d) ⟨_, rfl, ?_⟩
    have k0' : nameOk d = false → Bad K E .name H := fun h => k0 h H (Same.refl H)
    cases hx with
    | str z =>
      have hz : z.length < sizeLine := hz
      refine iteT ⟨_, rfl, Nat.le_of_lt hz, ?_⟩
      by_cases h1 : 1 ≤ (z.length : Int)
      · rw [decide_eq_true h1]
        refine iteT ?_
        by_cases h6 : (z.length : Int) ≤ 6
        · rw [decide_eq_true h6]
          refine iteF ?_
          refine lcS (z := z) (fun c => some (.bl (decide (c ∈ small)))) (fun R r => ⟨_, rfl, r⟩) hz (fun c H' _ s1 N1 N0 k1 k0 => ?_) (fun D H' hD s1 e => ?_)
          · walk_at "rd"
            exact ⟨_, rfl, k1 _ _ (Same.refl _) rfl⟩
          · refine ⟨D, z.cps.toList.map fun c => decide (c ∈ small), rfl, SqL.of ?_, ?_⟩
            · rw [e, List.filterMap_eq_map', List.map_map]
              rfl
            · refine ⟨_, rfl, ?_⟩
              have ea : nameOk (.str z) = (z.cps.toList.map fun c => decide (c ∈ small)).all id := by
                have h1' : 1 ≤ z.length := by omega
                have h6' : z.length ≤ 6 := by omega
                simp [nameOk, nameZ, h1', h6', List.all_map, Function.comp_def]
              rw [← ea]
              cases en : nameOk (.str z) with
              | true => exact iteF (k1 en H' s1)
              | false => exact iteT (k0 en H' s1)
        · rw [decide_eq_false h6]
          refine iteT (k0' ?_)
          have h6' : ¬ z.length ≤ 6 := by omega
          simp [nameOk, nameZ, h6']
      · rw [decide_eq_false h1]
        refine iteF (k0' ?_)
        have h1' : ¬ 1 ≤ z.length := by omega
        simp [nameOk, nameZ, h1']
    | int i => exact iteF (k0' rfl)
    | bl b => exact iteF (k0' rfl)
    | non => exact iteF (k0' rfl)
    | lst _ _ => exact iteF (k0' rfl)
    | tup _ _ => exact iteF (k0' rfl)
def spNeedText (K : PySem.W.Frag) : Sp := fun vs H Q E => ∃ (x : V) (d : PyData), vs = [x] ∧ Dp K H x d ∧ Short d ∧
  (textOk d = true → ∀ H', Same H H' → Q .non H') ∧ (textOk d = false → ∀ H', Same H H' → Bad K E .text H')
theorem lt1 (a b : Nat) : decide (([a] : List Nat) < [b]) = decide (a < b) := by
  have : (([a] : List Nat) < [b]) ↔ a < b := by
    rw [List.cons_lt_cons_iff]
    simp
  simp [this]
theorem sp32 : (Str.ofString " ").cps.toList = [32] := by decide +kernel
theorem ti126 : (Str.ofString "~").cps.toList = [126] := by decide +kernel
abbrev N_need_text : List Str := ["thing", "good", "sign"]
theorem sc_need_text : FnScope N_need_text ["thing"] (defScope s_need_text) := ⟨rfl, rfl, rfl, by decide +kernel, rfl, by decide +kernel, by decide +kernel⟩
theorem be_need_text : BindEq "need_text" "need_text" s_need_text ["thing"] := fun _ _ _ _ _ _ us hl => match us, hl with | [_], _ => rfl
theorem D_need_text (T : Txt K mg base) : Def P w K mg base 1 (He.ga K "need_text") ["thing"] (spNeedText K) := by
  refine mk_def T.f_need_text sc_need_text be_need_text (fun vs H Q E h => ?_) (fun cdv A outer s H vs Q E hr h => ?_)
  · obtain ⟨x, d, rfl, _⟩ := h
    rfl
  · obtain ⟨x, d, rfl, hx, hz, k1, k0⟩ := h
    refine ⟨_, (pss_cons (ps_set (i := 1) sc_need_text.nd rfl (Or.inl rfl) (pe_and (pe_callB call_isi (by rfl) T.b_isinstance (by decide +kernel) (pa_cons (pv 0) (pa_cons (pe_bltn (v := .ty "str") (by rfl) T.b_str (by decide +kernel) rfl) pa_nil))) (pe_one (pe_chain op_le op_le pe_int (pe_callB call_len_str (by rfl) T.b_len (by decide +kernel) (pa_cons (pv 0) pa_nil)) (pe_gk T.k_MOST_TEXT)))))
      (pss_one (ps_if (PW.pt (pw_or (pt_not (pt_val (pv 1))) (pw_or1 (pt_not (pt_val (pe_callB (cr_all rfl) (by rfl) T.b_all (by decide +kernel) (pa_cons (pe_lc (own := [("sign", 2)]) (g := gName 2) rfl sc_need_text.nd (pi_str (pv 0)) (blkOk_by (N := N_need_text) (sc := defScope s_need_text) (by decide +kernel)) (fun _ _ _ _ _ => by exact (pg_name (i := 2) sc_need_text.nd rfl (Or.inl rfl))) (fun _ _ _ _ _ => pts_nil) (fun _ _ _ _ _ => by exact (pe_and (pe_chain op_le_str op_le_str pe_str (pv 2) pe_str) (pe_one (pe_cmpR op_ne (pe_callB call_ord (by rfl) T.b_ord (by decide +kernel) (pa_cons (pv 2) pa_nil)) (pe_gk T.k_BARRED) (nomark _)))))) pa_nil))))))) (pss_one (ps_rs T.x_BadText)) pss_nil))), ?_⟩
    walk_at "rd"
    refine use_isi hx (kit_str d) ⟨_, rfl, ?_⟩
    have k0' : textOk d = false → Bad K E .text H := fun h => k0 h H (Same.refl H)
    cases hx with
    | str z =>
      have hz : z.length < sizeLine := hz
      refine iteT ⟨_, rfl, Nat.le_of_lt hz, ?_⟩
      by_cases h1 : 1 ≤ (z.length : Int)
      · rw [decide_eq_true h1]
        refine iteT ?_
        by_cases h6 : (z.length : Int) ≤ 30
        · rw [decide_eq_true h6]
          refine iteF ?_
          refine lcS (z := z) (fun c => some (.bl (signOk c))) (fun R r => ⟨_, rfl, r⟩) hz (fun c H' _ s1 N1 N0 k1 k0 => ?_) (fun D H' hD s1 e => ?_)
          · walk_at "rd"
            rw [sp32, ti126, lt1, lt1]
            by_cases a1 : c < 32
            · rw [decide_eq_true a1]
              refine iteF (k1 _ _ (Same.refl _) ?_)
              have : ¬ 32 ≤ c := by omega
              simp [signOk, this]
            · rw [decide_eq_false a1]
              refine iteT ?_
              by_cases a2 : 126 < c
              · rw [decide_eq_true a2]
                refine iteF (k1 _ _ (Same.refl _) ?_)
                have : ¬ c ≤ 126 := by omega
                simp [signOk, this]
              · rw [decide_eq_false a2]
                refine iteT ⟨rfl, rfl, k1 _ _ (Same.refl _) ?_⟩
                have h32 : 32 ≤ c := by omega
                have h126 : c ≤ 126 := by omega
                have e37 : decide (((#[c].getD 0 0 : Nat) : Int) = 37) = decide (c = 37) := by
                  have : (#[c].getD 0 0 : Nat) = c := rfl
                  rw [this]
                  by_cases hc : c = 37
                  · simp [hc]
                  · have : ¬ ((c : Int) = 37) := by omega
                    simp [hc, this]
                rw [e37]
                simp [signOk, h32, h126]
          · refine ⟨D, z.cps.toList.map signOk, rfl, SqL.of ?_, ?_⟩
            · rw [e, List.filterMap_eq_map', List.map_map]
              rfl
            · refine ⟨_, rfl, ?_⟩
              have ea : textOk (.str z) = (z.cps.toList.map signOk).all id := by
                have h1' : 1 ≤ z.length := by omega
                have h6' : z.length ≤ 30 := by omega
                simp [textOk, textZ, h1', h6', List.all_map, Function.comp_def]
              rw [← ea]
              cases en : textOk (.str z) with
              | true => exact iteF (k1 en H' s1)
              | false => exact iteT (k0 en H' s1)
        · rw [decide_eq_false h6]
          refine iteT (k0' ?_)
          have h6' : ¬ z.length ≤ 30 := by omega
          simp [textOk, textZ, h6']
      · rw [decide_eq_false h1]
        refine iteF (k0' ?_)
        have h1' : ¬ 1 ≤ z.length := by omega
        simp [textOk, textZ, h1']
    | int i => exact iteF (k0' rfl)
    | bl b => exact iteF (k0' rfl)
    | non => exact iteF (k0' rfl)
    | lst _ _ => exact iteF (k0' rfl)
    | tup _ _ => exact iteF (k0' rfl)
end
end Vw
namespace Vw
open PySem PySem.Spec PyProof.Rows L2
local macro_rules | `(tactic| walk_at "rd") => `(tactic| simp only [tSeq, tNext, tIfS, tAsg, tRet, tRetN, tDrop, tVar, tC, tOp, tUn, tTest, tB, tAnd, tOr, tNot, tAndV, tOrV, tNotV, tIf, tChain, tCB, tCons, tNil, tCall, tMeth, tMake, tFld, sFld, tTup, tLst, tCmp, t2I, tIsN, tNotN, tPar, gName, gNil, gCons, gTup, gSub, rI0, rU, rEq, rNe, tDGet, tDIn, tDNotIn, sDPut, tDNewK, tDGet1, tDGet2, tDPop1, tDPop2, tBM, tBM0, tM0, tM1, tSl, tPart, tNoPart, tBreak, tCont, tThru, L2.start, List.map_cons, List.map_nil, List.length_cons, List.length_nil, List.cons_append, List.nil_append, List.append_nil, List.replicate_succ, List.replicate_zero, Nat.reduceAdd, Nat.reduceSub, Nat.zero_add, List.getElem?_cons_zero, List.getElem?_cons_succ, List.set_cons_zero, List.set_cons_succ, wipe, cxOf_K, tYes, List.cons.injEq, and_self, Option.some.injEq, V.int.injEq, V.bl.injEq, V.ref.injEq, V.str.injEq, exists_eq_left', exists_eq_left, exists_and_left, and_assoc, true_and, and_true, if_true, if_false, ite_true, ite_false, Bool.not_true, Bool.not_false, Bool.false_eq_true, reduceIte])
/-! ### a saying in the heap -/
abbrev cS (K : PySem.W.Frag) : Addr := He.ga K "Saying"
abbrev cW (K : PySem.W.Frag) : Addr := He.ga K "Wood"
def voteK (p : Str × Int) : Key × V := (Sum.inr p.1, .int p.2)
def votesK (vs : List (Str × Int)) : List (Key × V) := vs.map voteK
structure SayAt (K : PySem.W.Frag) (H : Hp) (a x v : Addr) (r : Row) : Prop where
  o : H a = some (.ins (cS K) x (sayFs r v))
  d : H v = some (.dK (votesK r.votes))
  nd : (r.votes.map (·.1)).Nodup
  sz : r.votes.length < 100000
theorem SayAt.same {K : PySem.W.Frag} {H H' : Hp} {a x v : Addr} {r : Row} (S : SayAt K H a x v r) (s : Same H H') : SayAt K H' a x v r := ⟨s _ _ S.o, s _ _ S.d, S.nd, S.sz⟩
theorem fld {K : PySem.W.Frag} {H : Hp} {a C dx : Addr} {fs : List (Str × V)} {f : Str} {v : V} {R : V → Prop} (h : H a = some (.ins C dx fs)) (hc : Cls K C) (hn : NoAttr K C f) (hl : fs.lookup f = some v) (q : R v) :
    ∃ C dx fs, H a = some (.ins C dx fs) ∧ Cls K C ∧ NoAttr K C f ∧ ∃ v, fs.lookup f = some v ∧ R v := ⟨_, _, _, h, hc, hn, _, hl, q⟩
section
variable {K : PySem.W.Frag} {mg : Str → Option Value} {base : Heap} {H : Hp} {a x v : Addr} {r : Row} {R : V → Prop}
theorem SayAt.fby (S : SayAt K H a x v r) (T : Txt K mg base) (q : R (.str r.who)) : ∃ C dx fs, H a = some (.ins C dx fs) ∧ Cls K C ∧ NoAttr K C "by" ∧ ∃ v, fs.lookup (Str.ofString "by") = some v ∧ R v := fld S.o T.c_Saying.c T.n_Saying_by (fs_by _ _) q
theorem SayAt.funder (S : SayAt K H a x v r) (T : Txt K mg base) (q : R (.int r.under)) : ∃ C dx fs, H a = some (.ins C dx fs) ∧ Cls K C ∧ NoAttr K C "under" ∧ ∃ v, fs.lookup (Str.ofString "under") = some v ∧ R v := fld S.o T.c_Saying.c T.n_Saying_under (fs_under _ _) q
theorem SayAt.ftext (S : SayAt K H a x v r) (T : Txt K mg base) (q : R (.str r.text)) : ∃ C dx fs, H a = some (.ins C dx fs) ∧ Cls K C ∧ NoAttr K C "text" ∧ ∃ v, fs.lookup (Str.ofString "text") = some v ∧ R v := fld S.o T.c_Saying.c T.n_Saying_text (fs_text _ _) q
theorem SayAt.ftime (S : SayAt K H a x v r) (T : Txt K mg base) (q : R (.int r.time)) : ∃ C dx fs, H a = some (.ins C dx fs) ∧ Cls K C ∧ NoAttr K C "time" ∧ ∃ v, fs.lookup (Str.ofString "time") = some v ∧ R v := fld S.o T.c_Saying.c T.n_Saying_time (fs_time _ _) q
theorem SayAt.fvotes (S : SayAt K H a x v r) (T : Txt K mg base) (q : R (.ref v)) : ∃ C dx fs, H a = some (.ins C dx fs) ∧ Cls K C ∧ NoAttr K C "votes" ∧ ∃ v, fs.lookup (Str.ofString "votes") = some v ∧ R v := fld S.o T.c_Saying.c T.n_Saying_votes (fs_votes _ _) q
theorem SayAt.fstruck (S : SayAt K H a x v r) (T : Txt K mg base) (q : R (.bl r.struck)) : ∃ C dx fs, H a = some (.ins C dx fs) ∧ Cls K C ∧ NoAttr K C "is_struck" ∧ ∃ v, fs.lookup (Str.ofString "is_struck") = some v ∧ R v := fld S.o T.c_Saying.c T.n_Saying_is_struck (fs_struck _ _) q
end
theorem votes_at {vs : List (Str × Int)} (nd : (vs.map (·.1)).Nodup) {p : Str × Int} (hp : p ∈ vs) : valV (votesK vs) (Sum.inr p.1) = some (.int p.2) := by
  induction vs with
  | nil => cases hp
  | cons q r ih =>
    simp only [List.map_cons, List.nodup_cons] at nd
    rcases List.mem_cons.mp hp with rfl | hp
    · exact valV_pos rfl
    · have h : ¬ (Sum.inr q.1 : Key) = Sum.inr p.1 := fun e => nd.1 (List.mem_map.mpr ⟨p, hp, (Sum.inr.inj e).symm⟩)
      show valV (voteK q :: votesK r) _ = _
      rw [valV_neg h]
      exact ih nd.2 hp
theorem len_if {l : List (Str × Int)} {c : Str × Int → Prop} [DecidablePred c] {f : Str × Int → V} : (l.filterMap fun p => if c p then some (f p) else none).length = (l.filter fun p => decide (c p)).length := by
  induction l with
  | nil => rfl
  | cons a r ih =>
    by_cases h : c a
    · simp [List.filterMap_cons, List.filter_cons, h, ih]
    · simp [List.filterMap_cons, List.filter_cons, h, ih]
section
variable {P : Program} {w : World} {K : PySem.W.Frag} {mg : Str → Option Value} {base : Heap}
/-! ### Saying.__init__ -/
def spSayInit (K : PySem.W.Frag) : Sp := fun vs H Q _ => ∃ (a x : Addr) (who text : Str) (under time : Int), vs = [.ref a, .str who, .int under, .str text, .int time] ∧ H a = some (.ins (cS K) x []) ∧
  ∀ v H', H v = none → SayAt K H' a x v ⟨who, under, text, time, [], false⟩ → (∀ b o, b ≠ a → H b = some o → H' b = some o) → Q .non H'
abbrev N_Saying___init__ : List Str := ["self", "by", "under", "text", "time"]
theorem sc_Saying___init__ : FnScope N_Saying___init__ ["self", "by", "under", "text", "time"] (defScope s_Saying___init__) := ⟨rfl, rfl, rfl, by decide +kernel, rfl, by decide +kernel, by decide +kernel⟩
theorem be_Saying___init__ : BindEq "__init__" "Saying.__init__" s_Saying___init__ ["self", "by", "under", "text", "time"] := fun _ _ _ _ _ _ us hl => match us, hl with | [_, _, _, _, _], _ => rfl
theorem D_Saying___init__ (T : Txt K mg base) : Def P w K mg base 1 (He.ma K (He.ga K "Saying") "__init__") ["self", "by", "under", "text", "time"] (spSayInit K) := by
  refine mk_def T.f_Saying___init__ sc_Saying___init__ be_Saying___init__ (fun vs H Q E h => ?_) (fun cdv A outer s H vs Q E hr h => ?_)
  · obtain ⟨a, x, who, text, under, time, rfl, _⟩ := h
    rfl
  · obtain ⟨a, x, who, text, under, time, rfl, ha, k⟩ := h
    refine ⟨_, (pss_cons (ps_fld (pv 0) (pv 1) (by rfl))
      (pss_cons (ps_fld (pv 0) (pv 2) (by rfl))
      (pss_cons (ps_fld (pv 0) (pv 3) (by rfl))
      (pss_cons (ps_fld (pv 0) (pv 4) (by rfl))
      (pss_cons (ps_fld (pv 0) pe_dnewK (by rfl))
      (pss_one (ps_fld (pv 0) pe_bl (by rfl)))))))), ?_⟩
    walk_at "rd"
    refine ⟨_, _, _, ha, T.c_Saying.c, T.n_Saying_by, by decide, _, _, _, upd_same, T.c_Saying.c, T.n_Saying_under, by simp [putF], _, _, _, upd_same, T.c_Saying.c, T.n_Saying_text, by simp [putF, ofString_inj], _, _, _, upd_same, T.c_Saying.c, T.n_Saying_time, by simp [putF, ofString_inj], fun v hv => ?_⟩
    simp only [upd_upd] at hv ⊢
    have nva : v ≠ a := fun z => by
      rw [z, upd_same] at hv
      cases hv
    refine ⟨_, _, _, by rw [upd_ne nva.symm, upd_same], T.c_Saying.c, T.n_Saying_votes, by simp [putF, ofString_inj], _, _, _, upd_same, T.c_Saying.c, T.n_Saying_is_struck, by simp [putF, ofString_inj], ?_⟩
    refine k v _ (by rw [upd_ne nva] at hv; exact hv) ⟨?_, ?_, List.nodup_nil, by show 0 < 100000; decide⟩ (fun b o hb e => ?_)
    · rw [upd_same]
      simp [putF, ofString_inj, sayFs]
    · rw [upd_ne nva, upd_same]
      rfl
    · have nbv : b ≠ v := fun z => by
        rw [z] at e
        rw [upd_ne nva, e] at hv
        cases hv
      rw [upd_ne hb, upd_ne nbv, upd_ne hb]
      exact e
/-! ### Saying.ups, downs, points -/
def spUps (K : PySem.W.Frag) (f : Row → Int) : Sp := fun vs H Q _ => ∃ (a x v : Addr) (r : Row), vs = [.ref a] ∧ SayAt K H a x v r ∧ ∀ H', Same H H' → Q (.int (f r)) H'
abbrev N_Saying_ups : List Str := ["self", "name"]
theorem sc_Saying_ups : FnScope N_Saying_ups ["self"] (defScope s_Saying_ups) := ⟨rfl, rfl, rfl, by decide +kernel, rfl, by decide +kernel, by decide +kernel⟩
theorem be_Saying_ups : BindEq "ups" "Saying.ups" s_Saying_ups ["self"] := fun _ _ _ _ _ _ us hl => match us, hl with | [_], _ => rfl
theorem D_Saying_ups (T : Txt K mg base) : Def P w K mg base 1 (He.ma K (He.ga K "Saying") "ups") ["self"] (spUps K Row.ups) := by
  refine mk_def T.f_Saying_ups sc_Saying_ups be_Saying_ups (fun vs H Q E h => ?_) (fun cdv A outer s H vs Q E hr h => ?_)
  · obtain ⟨a, x, v, r, rfl, _⟩ := h
    rfl
  · obtain ⟨a, x, v, r, rfl, S, k⟩ := h
    refine ⟨_, (pss_one (ps_ret (pe_callB call_len_seq (by rfl) T.b_len (by decide +kernel) (pa_cons (pe_lock (pe_lc (own := [("name", 1)]) (g := gName 1) rfl sc_Saying_ups.nd (pi_keys (pe_fld (pv 0) (by rfl))) (blkOk_by (N := N_Saying_ups) (sc := defScope s_Saying_ups) (by decide +kernel)) (fun _ _ _ _ _ => by exact (pg_name (i := 1) sc_Saying_ups.nd rfl (Or.inl rfl))) (fun _ _ _ _ _ => by exact (pts_one (pt_cmpR op_gt (pe_dg (pe_fldK K (pv 0)) (pv 1) (by exact hu_of hr)) pe_int (nomark _)))) (fun _ _ _ _ _ => by exact (pv 1)))) pa_nil)))), ?_⟩
    walk_at "rd"
    have nav : a ≠ v := ne_of S.o S.d (by intro q; cases q)
    have nd := S.nd
    refine lcK (l := r.votes) (d := v) voteK (fun p => if 0 < p.2 then some (.str p.1) else none) S.d (fun H' R hk q => ?_) (by have := S.sz; rw [sizeLine_eq]; omega) (fun p H' od hp hk hv N1 N0 k1 k0 => ?_) (fun D H' hD s1 e => ?_)
    · walk_at "rd"
      exact fld (hk _ _ nav S.o) T.c_Saying.c T.n_Saying_votes (fs_votes _ _) q
    · walk_at "rd"
      refine fld (hk _ _ nav S.o) T.c_Saying.c T.n_Saying_votes (fs_votes _ _) ⟨_, rfl, _, .inl ⟨_, _, .inr ⟨_, hv⟩, rfl, (votes_at nd hp).symm⟩, _, rfl, ?_⟩
      by_cases c : 0 < p.2
      · rw [decide_eq_true c]
        exact iteT (k1 _ _ (Same.refl _) (if_pos c))
      · rw [decide_eq_false c]
        exact iteF (k0 _ (Same.refl _) (if_neg c))
    · refine ⟨_, rfl, _, .inl (SqL.of e), ?_⟩
      rw [len_if]
      exact k H' s1
abbrev N_Saying_downs : List Str := ["self", "name"]
theorem sc_Saying_downs : FnScope N_Saying_downs ["self"] (defScope s_Saying_downs) := ⟨rfl, rfl, rfl, by decide +kernel, rfl, by decide +kernel, by decide +kernel⟩
theorem be_Saying_downs : BindEq "downs" "Saying.downs" s_Saying_downs ["self"] := fun _ _ _ _ _ _ us hl => match us, hl with | [_], _ => rfl
theorem D_Saying_downs (T : Txt K mg base) : Def P w K mg base 1 (He.ma K (He.ga K "Saying") "downs") ["self"] (spUps K Row.downs) := by
  refine mk_def T.f_Saying_downs sc_Saying_downs be_Saying_downs (fun vs H Q E h => ?_) (fun cdv A outer s H vs Q E hr h => ?_)
  · obtain ⟨a, x, v, r, rfl, _⟩ := h
    rfl
  · obtain ⟨a, x, v, r, rfl, S, k⟩ := h
    refine ⟨_, (pss_one (ps_ret (pe_callB call_len_seq (by rfl) T.b_len (by decide +kernel) (pa_cons (pe_lock (pe_lc (own := [("name", 1)]) (g := gName 1) rfl sc_Saying_downs.nd (pi_keys (pe_fld (pv 0) (by rfl))) (blkOk_by (N := N_Saying_downs) (sc := defScope s_Saying_downs) (by decide +kernel)) (fun _ _ _ _ _ => by exact (pg_name (i := 1) sc_Saying_downs.nd rfl (Or.inl rfl))) (fun _ _ _ _ _ => by exact (pts_one (pt_cmpR op_lt (pe_dg (pe_fldK K (pv 0)) (pv 1) (by exact hu_of hr)) pe_int (nomark _)))) (fun _ _ _ _ _ => by exact (pv 1)))) pa_nil)))), ?_⟩
    walk_at "rd"
    have nav : a ≠ v := ne_of S.o S.d (by intro q; cases q)
    have nd := S.nd
    refine lcK (l := r.votes) (d := v) voteK (fun p => if p.2 < 0 then some (.str p.1) else none) S.d (fun H' R hk q => ?_) (by have := S.sz; rw [sizeLine_eq]; omega) (fun p H' od hp hk hv N1 N0 k1 k0 => ?_) (fun D H' hD s1 e => ?_)
    · walk_at "rd"
      exact fld (hk _ _ nav S.o) T.c_Saying.c T.n_Saying_votes (fs_votes _ _) q
    · walk_at "rd"
      refine fld (hk _ _ nav S.o) T.c_Saying.c T.n_Saying_votes (fs_votes _ _) ⟨_, rfl, _, .inl ⟨_, _, .inr ⟨_, hv⟩, rfl, (votes_at nd hp).symm⟩, _, rfl, ?_⟩
      by_cases c : p.2 < 0
      · rw [decide_eq_true c]
        exact iteT (k1 _ _ (Same.refl _) (if_pos c))
      · rw [decide_eq_false c]
        exact iteF (k0 _ (Same.refl _) (if_neg c))
    · refine ⟨_, rfl, _, .inl (SqL.of e), ?_⟩
      rw [len_if]
      exact k H' s1
abbrev N_Saying_points : List Str := ["self"]
theorem sc_Saying_points : FnScope N_Saying_points ["self"] (defScope s_Saying_points) := ⟨rfl, rfl, rfl, by decide +kernel, rfl, by decide +kernel, by decide +kernel⟩
theorem be_Saying_points : BindEq "points" "Saying.points" s_Saying_points ["self"] := fun _ _ _ _ _ _ us hl => match us, hl with | [_], _ => rfl
theorem D_Saying_points (T : Txt K mg base) : Def P w K mg base 2 (He.ma K (He.ga K "Saying") "points") ["self"] (spUps K Row.points) := by
  refine mk_def T.f_Saying_points sc_Saying_points be_Saying_points (fun vs H Q E h => ?_) (fun cdv A outer s H vs Q E hr h => ?_)
  · obtain ⟨a, x, v, r, rfl, _⟩ := h
    rfl
  · obtain ⟨a, x, v, r, rfl, S, k⟩ := h
    refine ⟨_, (pss_one (ps_ret (pe_op op_sub (pe_md0 (pv 0) T.c_Saying.c T.m_Saying_ups (D_Saying_ups T) (by exact hr.mono (by first | decide | omega)) passE) (pe_md0 (pv 0) T.c_Saying.c T.m_Saying_downs (D_Saying_downs T) (by exact hr.mono (by first | decide | omega)) passE)))), ?_⟩
    walk_at "rd"
    refine ⟨_, _, S.o, fs_ups _ _, a, x, v, r, rfl, S, fun H1 s1 => ?_⟩
    have S1 := S.same s1
    refine ⟨_, _, S1.o, fs_downs _ _, a, x, v, r, rfl, S1, fun H2 s2 => ?_⟩
    exact ⟨_, rfl, _, rfl, k H2 (s1.trans s2)⟩
end
end Vw
namespace Vw
open PySem PySem.Spec PyProof.Rows L2
local macro_rules | `(tactic| walk_at "rd") => `(tactic| simp only [tSeq, tNext, tIfS, tAsg, tRet, tRetN, tDrop, tVar, tC, tOp, tUn, tTest, tB, tAnd, tOr, tNot, tAndV, tOrV, tNotV, tIf, tChain, tCB, tCons, tNil, tCall, tMeth, tMake, tFld, sFld, tTup, tLst, tCmp, t2I, tIsN, tNotN, tPar, gName, gNil, gCons, gTup, gSub, rI0, rU, rEq, rNe, tDGet, tDIn, tDNotIn, sDPut, tDNewK, tDGet1, tDGet2, tDPop1, tDPop2, tBM, tBM0, tM0, tM1, tSl, tPart, tNoPart, tBreak, tCont, tThru, L2.start, List.map_cons, List.map_nil, List.length_cons, List.length_nil, List.cons_append, List.nil_append, List.append_nil, List.replicate_succ, List.replicate_zero, Nat.reduceAdd, Nat.reduceSub, Nat.zero_add, List.getElem?_cons_zero, List.getElem?_cons_succ, List.set_cons_zero, List.set_cons_succ, wipe, cxOf_K, tYes, List.cons.injEq, and_self, Option.some.injEq, V.int.injEq, V.bl.injEq, V.ref.injEq, V.str.injEq, exists_eq_left', exists_eq_left, exists_and_left, and_assoc, true_and, and_true, if_true, if_false, ite_true, ite_false, Bool.not_true, Bool.not_false, Bool.false_eq_true, reduceIte])
/-! ### a wood in the heap -/
structure Ent where
  n : Int
  row : Row
  a : Addr
  x : Addr
  v : Addr
structure Lay where
  p : Addr
  dx : Addr
  d : Addr
  ents : List Ent
  came : Int
  clock : Int
def entK (e : Ent) : Key × V := (Sum.inl e.n, .ref e.a)
structure WoodAt (K : PySem.W.Frag) (H : Hp) (L : Lay) : Prop where
  top : H L.p = some (.ins (cW K) L.dx (woodFs L.d L.came L.clock))
  dic : H L.d = some (.dK (L.ents.map entK))
  say : ∀ e ∈ L.ents, SayAt K H e.a e.x e.v e.row
  nk : (L.ents.map (·.n)).Nodup
  nda : (L.ents.map (·.a)).Nodup
  ndv : (L.ents.map (·.v)).Nodup
  dv : ∀ e ∈ L.ents, e.v ≠ L.d
  pa : ∀ e ∈ L.ents, e.a ≠ L.p
  sz : L.ents.length < 100000
theorem WoodAt.same {K : PySem.W.Frag} {H H' : Hp} {L : Lay} (W : WoodAt K H L) (s : Same H H') : WoodAt K H' L :=
  ⟨s _ _ W.top, s _ _ W.dic, fun e he => (W.say e he).same s, W.nk, W.nda, W.ndv, W.dv, W.pa, W.sz⟩
def findE (es : List Ent) (n : Int) : Option Ent := es.find? fun e => decide (e.n = n)
theorem findE_mem {es : List Ent} {n : Int} {e : Ent} (h : findE es n = some e) : e ∈ es ∧ e.n = n := ⟨List.mem_of_find?_eq_some h, by have := List.find?_some h; simpa using this⟩
theorem findE_of {es : List Ent} (nk : (es.map (·.n)).Nodup) {e : Ent} (he : e ∈ es) : findE es e.n = some e := by
  induction es with
  | nil => cases he
  | cons q r ih =>
    simp only [List.map_cons, List.nodup_cons] at nk
    unfold findE
    rw [List.find?_cons]
    rcases List.mem_cons.mp he with rfl | he
    · simp
    · have h : ¬ q.n = e.n := fun z => nk.1 (List.mem_map.mpr ⟨e, he, z.symm⟩)
      simp only [h, decide_false]
      exact ih nk.2 he
theorem valE (es : List Ent) (n : Int) : valV (es.map entK) (Sum.inl n) = (findE es n).map fun e => V.ref e.a := by
  induction es with
  | nil => rfl
  | cons q r ih =>
    unfold findE
    rw [List.map_cons, List.find?_cons]
    by_cases h : q.n = n
    · rw [valV_pos (show (entK q).1 = Sum.inl n from congrArg Sum.inl h)]
      simp [h, entK]
    · rw [valV_neg (show ¬ (entK q).1 = Sum.inl n from fun e => h (Sum.inl.inj e)), ih]
      simp only [h, decide_false]
      rfl
section
variable {K : PySem.W.Frag} {mg : Str → Option Value} {base : Heap} {H : Hp} {L : Lay} {R : V → Prop}
theorem WoodAt.fsay (W : WoodAt K H L) (T : Txt K mg base) (q : R (.ref L.d)) : ∃ C dx fs, H L.p = some (.ins C dx fs) ∧ Cls K C ∧ NoAttr K C "sayings" ∧ ∃ v, fs.lookup (Str.ofString "sayings") = some v ∧ R v := fld W.top T.c_Wood.c T.n_Wood_sayings (fw_sayings _ _ _) q
theorem WoodAt.fcame (W : WoodAt K H L) (T : Txt K mg base) (q : R (.int L.came)) : ∃ C dx fs, H L.p = some (.ins C dx fs) ∧ Cls K C ∧ NoAttr K C "came" ∧ ∃ v, fs.lookup (Str.ofString "came") = some v ∧ R v := fld W.top T.c_Wood.c T.n_Wood_came (fw_came _ _ _) q
theorem WoodAt.fclock (W : WoodAt K H L) (T : Txt K mg base) (q : R (.int L.clock)) : ∃ C dx fs, H L.p = some (.ins C dx fs) ∧ Cls K C ∧ NoAttr K C "clock" ∧ ∃ v, fs.lookup (Str.ofString "clock") = some v ∧ R v := fld W.top T.c_Wood.c T.n_Wood_clock (fw_clock _ _ _) q
/-- o[n], n there -/
theorem WoodAt.at {R : V → Prop} (W : WoodAt K H L) {n : Int} {e : Ent} (he : findE L.ents n = some e) (q : R (.ref e.a)) : ∃ a, V.ref L.d = V.ref a ∧ ∃ x, DGet H a (.int n) (some x) ∧ R x :=
  ⟨_, rfl, _, .inl ⟨_, Sum.inl n, .inl W.dic, rfl, by rw [valE, he]; rfl⟩, q⟩
end
def sortI (l : List Int) : List Int := l.mergeSort fun a b => decide (a ≤ b)
theorem sortI_perm (l : List Int) : (sortI l).Perm l := List.mergeSort_perm l _
theorem sortI_le (l : List Int) : (sortI l).Pairwise (· ≤ ·) := by
  have h := List.pairwise_mergeSort (le := fun a b : Int => decide (a ≤ b)) (by intro a b c h1 h2; simp only [decide_eq_true_eq] at *; omega) (by intro a b; simp only [Bool.or_eq_true, decide_eq_true_eq]; omega) l
  exact h.imp fun h => by simpa using h
theorem sortI_eq {a b : List Int} (hp : a.Perm b) (ha : a.Pairwise (· ≤ ·)) : a = sortI b := (hp.trans (sortI_perm b).symm).eq_of_pairwise (fun x y _ _ h1 h2 => Int.le_antisymm h1 h2) ha (sortI_le b)
theorem sortI_self {a : List Int} (ha : a.Pairwise (· ≤ ·)) : sortI a = a := (sortI_eq (List.Perm.refl a) ha).symm
theorem sortI_length (l : List Int) : (sortI l).length = l.length := (sortI_perm l).length_eq
section
variable {P : Program} {w : World} {K : PySem.W.Frag} {mg : Str → Option Value} {base : Heap}
/-! ### Wood.__init__, now, tick -/
def spWoodInit (K : PySem.W.Frag) : Sp := fun vs H Q _ => ∃ (p dx : Addr), vs = [.ref p] ∧ H p = some (.ins (cW K) dx []) ∧
  ∀ d H', H d = none → WoodAt K H' ⟨p, dx, d, [], 0, 0⟩ → (∀ b o, b ≠ p → H b = some o → H' b = some o) → Q .non H'
abbrev N_Wood___init__ : List Str := ["self"]
theorem sc_Wood___init__ : FnScope N_Wood___init__ ["self"] (defScope s_Wood___init__) := ⟨rfl, rfl, rfl, by decide +kernel, rfl, by decide +kernel, by decide +kernel⟩
theorem be_Wood___init__ : BindEq "__init__" "Wood.__init__" s_Wood___init__ ["self"] := fun _ _ _ _ _ _ us hl => match us, hl with | [_], _ => rfl
theorem D_Wood___init__ (T : Txt K mg base) : Def P w K mg base 1 (He.ma K (He.ga K "Wood") "__init__") ["self"] (spWoodInit K) := by
  refine mk_def T.f_Wood___init__ sc_Wood___init__ be_Wood___init__ (fun vs H Q E h => ?_) (fun cdv A outer s H vs Q E hr h => ?_)
  · obtain ⟨a, x, rfl, _⟩ := h
    rfl
  · obtain ⟨p, dx, rfl, hp, k⟩ := h
    refine ⟨_, (pss_cons (ps_fld (pv 0) pe_dnewK (by rfl))
      (pss_cons (ps_fld (pv 0) pe_int (by rfl))
      (pss_one (ps_fld (pv 0) pe_int (by rfl))))), ?_⟩
    walk_at "rd"
    intro d hd
    have npd : p ≠ d := ne_of_none hp hd
    refine ⟨_, _, _, by rw [upd_ne npd]; exact hp, T.c_Wood.c, T.n_Wood_sayings, by decide, _, _, _, upd_same, T.c_Wood.c, T.n_Wood_came, by simp [putF], _, _, _, upd_same, T.c_Wood.c, T.n_Wood_clock, by simp [putF, ofString_inj], ?_⟩
    simp only [upd_upd]
    refine k d _ hd ⟨?_, ?_, (fun e he => nomatch he), List.nodup_nil, List.nodup_nil, List.nodup_nil, (fun e he => nomatch he), (fun e he => nomatch he), (by show 0 < 100000; decide)⟩ (fun b o hb e => ?_)
    · rw [upd_same]
      simp [putF, ofString_inj, woodFs]
    · rw [upd_ne npd.symm, upd_same]
      rfl
    · rw [upd_ne hb, upd_ne (ne_of_none e hd)]
      exact e
def spNow (K : PySem.W.Frag) : Sp := fun vs H Q _ => ∃ L : Lay, vs = [.ref L.p] ∧ WoodAt K H L ∧ Q (.int L.clock) H
theorem WoodAt.setTop {K : PySem.W.Frag} {H : Hp} {L : Lay} (W : WoodAt K H L) (c k : Int) : WoodAt K (upd H L.p (.ins (cW K) L.dx (woodFs L.d c k))) { L with came := c, clock := k } := by
  have npd : L.d ≠ L.p := ne_of W.dic W.top (by intro q; cases q)
  refine ⟨upd_same, by show upd H L.p _ L.d = _; rw [upd_ne npd]; exact W.dic, fun e he => ?_, W.nk, W.nda, W.ndv, W.dv, W.pa, W.sz⟩
  have S := W.say e he
  exact ⟨by rw [upd_ne (W.pa e he)]; exact S.o, by rw [upd_ne (ne_of S.d W.top (by intro q; cases q))]; exact S.d, S.nd, S.sz⟩
def spTick (K : PySem.W.Frag) : Sp := fun vs H Q E => ∃ (L : Lay) (x : V) (d : PyData), vs = [.ref L.p, x] ∧ WoodAt K H L ∧ Dp K H x d ∧
  (∀ n : Int, d = .int n → isCount d 0 1000 = true → ∀ H', WoodAt K H' { L with clock := L.clock + n } → (∀ b o, b ≠ L.p → H b = some o → H' b = some o) → Q .non H') ∧ (isCount d 0 1000 = false → Bad K E .number H)
/-! ### Wood.saying, numbers -/
def sayingD (L : Lay) (d : PyData) : Option Ent := match d with
  | .int n => if 1 ≤ n ∧ n ≤ L.came then findE L.ents n else none
  | _ => none
def spSaying (K : PySem.W.Frag) : Sp := fun vs H Q E => ∃ (L : Lay) (x : V) (d : PyData), vs = [.ref L.p, x] ∧ WoodAt K H L ∧ Dp K H x d ∧ (∀ e, sayingD L d = some e → Q (.ref e.a) H) ∧ (sayingD L d = none → Bad K E .no H)
abbrev N_Wood_saying : List Str := ["self", "number"]
theorem sc_Wood_saying : FnScope N_Wood_saying ["self", "number"] (defScope s_Wood_saying) := ⟨rfl, rfl, rfl, by decide +kernel, rfl, by decide +kernel, by decide +kernel⟩
theorem be_Wood_saying : BindEq "saying" "Wood.saying" s_Wood_saying ["self", "number"] := fun _ _ _ _ _ _ us hl => match us, hl with | [_, _], _ => rfl
theorem D_Wood_saying (T : Txt K mg base) : Def P w K mg base 2 (He.ma K (He.ga K "Wood") "saying") ["self", "number"] (spSaying K) := by
  refine mk_def T.f_Wood_saying sc_Wood_saying be_Wood_saying (fun vs H Q E h => ?_) (fun cdv A outer s H vs Q E hr h => ?_)
  · obtain ⟨L, x, d, rfl, _⟩ := h
    rfl
  · obtain ⟨L, x, d, rfl, W, hx, k1, k0⟩ := h
    refine ⟨_, (pss_cons (ps_if (PW.pt (pw_or (pt_not (pt_val (pe_cd (D_is_count T) (by exact hr.mono (by first | decide | omega)) T.g_is_count passE (pa_cons (pv 1) (pa_cons pe_int (pa_cons (pe_fld (pv 0) (by rfl)) pa_nil)))))) (pw_or1 (pt_cmp (pc_dni (pv 1) (pe_fld (pv 0) (by rfl)) (by exact hu_of hr)))))) (pss_one (ps_rs T.x_NoSaying)) pss_nil)
      (pss_one (ps_ret (pe_dg (pe_fld (pv 0) (by rfl)) (pv 1) (by exact hu_of hr))))), ?_⟩
    walk_at "rd"
    refine W.fcame T ⟨x, d, 1, L.came, rfl, hx, _, rfl, ?_⟩
    cases c : isCount d 1 L.came with
    | false =>
      refine iteT (k0 ?_)
      cases d with
      | int n =>
        have h : ¬ (1 ≤ n ∧ n ≤ L.came) := fun h => by simp [isCount, h.1, h.2] at c
        exact if_neg h
      | _ => rfl
    | true =>
      refine iteF ?_
      cases hx with
      | int n =>
        have h : 1 ≤ n ∧ n ≤ L.came := by simpa [isCount] using c
        have es : sayingD L (.int n) = findE L.ents n := if_pos h
        refine W.fsay T ⟨_, rfl, _, .inl ⟨_, Sum.inl n, .inl W.dic, rfl, rfl⟩, ?_⟩
        rw [valE]
        cases f : findE L.ents n with
        | none => exact iteT (k0 (es.trans f))
        | some e => exact iteF (W.fsay T (W.at f (k1 e (es.trans f))))
      | _ => cases c
def spNumbers (K : PySem.W.Frag) : Sp := fun vs H Q _ => ∃ L : Lay, vs = [.ref L.p] ∧ WoodAt K H L ∧ L.ents.length < 64 ∧ ∀ p H', H p = none → Same H H' → H' p = some (.lst ((sortI (L.ents.map (·.n))).map V.int)) → Q (.ref p) H'
abbrev N_Wood_numbers : List Str := ["self"]
theorem sc_Wood_numbers : FnScope N_Wood_numbers ["self"] (defScope s_Wood_numbers) := ⟨rfl, rfl, rfl, by decide +kernel, rfl, by decide +kernel, by decide +kernel⟩
theorem be_Wood_numbers : BindEq "numbers" "Wood.numbers" s_Wood_numbers ["self"] := fun _ _ _ _ _ _ us hl => match us, hl with | [_], _ => rfl
theorem D_Wood_numbers (T : Txt K mg base) : Def P w K mg base 1 (He.ma K (He.ga K "Wood") "numbers") ["self"] (spNumbers K) := by
  refine mk_def T.f_Wood_numbers sc_Wood_numbers be_Wood_numbers (fun vs H Q E h => ?_) (fun cdv A outer s H vs Q E hr h => ?_)
  · obtain ⟨L, rfl, _⟩ := h
    rfl
  · obtain ⟨L, rfl, W, hl, k⟩ := h
    refine ⟨_, (pss_one (ps_ret (pe_callB (call_sortedDI rfl) (by rfl) T.b_sorted (by decide +kernel) (pa_cons (pe_fld (pv 0) (by rfl)) pa_nil)))), ?_⟩
    walk_at "rd"
    refine W.fsay T ⟨_, rfl, _, .inl W.dic, L.ents.map (·.n), ?_, by simpa using hl, fun ys p hp hs hn => ?_⟩
    · simp [entK]
    · rw [sortI_eq hp hs]
      exact k p _ hn (Same.new hn) upd_same
end
end Vw
namespace Vw
open PySem PySem.Spec PyProof.Rows L2
local macro_rules | `(tactic| walk_at "rd") => `(tactic| simp only [tSeq, tNext, tIfS, tAsg, tRet, tRetN, tDrop, tVar, tC, tOp, tUn, tTest, tB, tAnd, tOr, tNot, tAndV, tOrV, tNotV, tIf, tChain, tCB, tCons, tNil, tCall, tMeth, tMake, tFld, sFld, tTup, tLst, tCmp, t2I, tIsN, tNotN, tPar, gName, gNil, gCons, gTup, gSub, rI0, rU, rEq, rNe, tDGet, tDIn, tDNotIn, sDPut, tDNewK, tDGet1, tDGet2, tDPop1, tDPop2, tBM, tBM0, tM0, tM1, tSl, tPart, tNoPart, tBreak, tCont, tThru, L2.start, List.map_cons, List.map_nil, List.length_cons, List.length_nil, List.cons_append, List.nil_append, List.append_nil, List.replicate_succ, List.replicate_zero, Nat.reduceAdd, Nat.reduceSub, Nat.zero_add, List.getElem?_cons_zero, List.getElem?_cons_succ, List.set_cons_zero, List.set_cons_succ, wipe, cxOf_K, tYes, List.cons.injEq, and_self, Option.some.injEq, V.int.injEq, V.bl.injEq, V.ref.injEq, V.str.injEq, exists_eq_left', exists_eq_left, exists_and_left, and_assoc, true_and, and_true, if_true, if_false, ite_true, ite_false, Bool.not_true, Bool.not_false, Bool.false_eq_true, reduceIte])
def Lay.rows (L : Lay) : Rows := L.ents.map fun e => (e.n, e.row)
def Lay.wd (L : Lay) : Wd := ⟨L.rows, L.came, L.clock⟩
theorem findRE (es : List Ent) (n : Int) : findR (es.map fun e => (e.n, e.row)) n = (findE es n).map (·.row) := by
  unfold findR findE
  rw [List.find?_map]
  show Option.map _ (Option.map _ (List.find? (fun e => decide (e.n = n)) es)) = _
  cases List.find? (fun e => decide (e.n = n)) es <;> rfl
theorem Lay.find (L : Lay) (n : Int) : findR L.rows n = (findE L.ents n).map (·.row) := findRE _ _
theorem sayingME (L : Lay) (d : PyData) : sayingM L.wd d = (sayingD L d).map fun e => (e.n, e.row) := by
  cases d with
  | int n =>
    unfold sayingM sayingD
    by_cases h : 1 ≤ n ∧ n ≤ L.came
    · show (if 1 ≤ n ∧ n ≤ L.came then _ else _) = Option.map _ (if 1 ≤ n ∧ n ≤ L.came then _ else _)
      rw [if_pos h, if_pos h]
      show Option.map _ (findR L.rows n) = _
      rw [L.find]
      cases f : findE L.ents n with
      | none => rfl
      | some e =>
        have := (findE_mem f).2
        simp [this]
    · show (if 1 ≤ n ∧ n ≤ L.came then _ else _) = Option.map _ (if 1 ≤ n ∧ n ≤ L.came then _ else _)
      rw [if_neg h, if_neg h]
      rfl
  | _ => rfl
theorem sayingD_mem {L : Lay} {d : PyData} {e : Ent} (h : sayingD L d = some e) : e ∈ L.ents := by
  cases d with
  | int n =>
    unfold sayingD at h
    by_cases c : 1 ≤ n ∧ n ≤ L.came
    · exact (findE_mem ((if_pos c).symm.trans h)).1
    · have h' : (none : Option Ent) = some e := (if_neg c).symm.trans h
      cases h'
  | _ => cases h
theorem use_neD {K : PySem.W.Frag} {H : Hp} {x y : V} {d e : PyData} {Q : VK} (hx : Dp K H x d) (hy : Dp K H y e) (s1 : SeqAt.shaped d = true) (s2 : SeqAt.shaped e = true) (q : Q (.bl (!PyData.eqv d e)) H) : rNeD K x y H Q := ⟨d, e, hx, hy, s1, s2, q⟩
theorem use_eqD {K : PySem.W.Frag} {H : Hp} {x y : V} {d e : PyData} {Q : VK} (hx : Dp K H x d) (hy : Dp K H y e) (s1 : SeqAt.shaped d = true) (s2 : SeqAt.shaped e = true) (q : Q (.bl (PyData.eqv d e)) H) : rEqD K x y H Q := ⟨d, e, hx, hy, s1, s2, q⟩
theorem eqv_str (a b : Str) : PyData.eqv (.str a) (.str b) = decide (a = b) := by
  first
  | rfl
  | simp [PyData.eqv]
theorem eqv_int (a b : Int) : PyData.eqv (.int a) (.int b) = decide (a = b) := by
  first
  | rfl
  | simp [PyData.eqv]
theorem filterMap_if {α β : Type} {l : List α} {c : α → Prop} [DecidablePred c] {f : α → β} : (l.filterMap fun p => if c p then some (f p) else none) = (l.filter fun p => decide (c p)).map f := by
  induction l with
  | nil => rfl
  | cons a r ih =>
    by_cases h : c a
    · simp [List.filterMap_cons, List.filter_cons, h, ih]
    · simp [List.filterMap_cons, List.filter_cons, h, ih]
theorem filter_sortI (l : List Int) (c : Int → Bool) : (sortI l).filter c = sortI (l.filter c) := sortI_eq ((sortI_perm l).filter c) ((sortI_le l).sublist List.filter_sublist)
theorem dps_ints {K : PySem.W.Frag} {H : Hp} : ∀ ns : List Int, DpAll K H (ns.map V.int) (ns.map PyData.int)
  | [] => .nil
  | n :: r => .cons (.int n) (dps_ints r)
theorem canLay_ints : ∀ ns : List Int, PyData.canLayAll0 (ns.map PyData.int) = true
  | [] => rfl
  | n :: r => by simp only [List.map_cons, PyData.canLayAll0, PyData.canLay0, canLay_ints r, Bool.and_self]
theorem depth_ints : ∀ ns : List Int, PyData.depthAll (ns.map PyData.int) = 0
  | [] => rfl
  | n :: r => by simp only [List.map_cons, PyData.depthAll, PyData.depth, depth_ints r, Nat.max_self]
theorem shaped_ints (ns : List Int) : SeqAt.shaped (.list (ns.map PyData.int)) = true := by
  simp [SeqAt.shaped, PyData.canLay0, PyData.depth, canLay_ints, depth_ints]
theorem eqvAll_ints : ∀ a b : List Int, PyData.eqvAll (a.map PyData.int) (b.map PyData.int) = decide (a = b)
  | [], [] => by simp [PyData.eqvAll]
  | [], _ :: _ => by simp [PyData.eqvAll]
  | _ :: _, [] => by simp [PyData.eqvAll]
  | x :: a, y :: b => by
    simp only [List.map_cons, PyData.eqvAll, eqvAll_ints a b, eqv_int]
    by_cases h : x = y <;> by_cases h2 : a = b <;> simp [h, h2]
theorem eqv_ints (a b : List Int) : PyData.eqv (.list (a.map PyData.int)) (.list (b.map PyData.int)) = decide (a = b) := by
  simp only [PyData.eqv, eqvAll_ints]
theorem dp_ints {K : PySem.W.Frag} {H : Hp} {p : Addr} {ns : List Int} (h : H p = some (.lst (ns.map V.int))) : Dp K H (.ref p) (.list (ns.map PyData.int)) := .lst (SqL.of h) (dps_ints ns)
/-- there, or 0 -/
def Here (L : Lay) (n : Int) : Prop := n = 0 ∨ ∃ e, findE L.ents n = some e
section
variable {P : Program} {w : World} {K : PySem.W.Frag} {mg : Str → Option Value} {base : Heap}
def spDeep (K : PySem.W.Frag) : Sp := fun vs H Q _ => ∃ (L : Lay) (n : Int), vs = [.ref L.p, .int n] ∧ WoodAt K H L ∧ Wf L.rows ∧ Here L n ∧ Q (.int (deepI L.rows n : Nat)) H
abbrev N_Wood_deep : List Str := ["self", "number", "found"]
theorem sc_Wood_deep : FnScope N_Wood_deep ["self", "number"] (defScope s_Wood_deep) := ⟨rfl, rfl, rfl, by decide +kernel, rfl, by decide +kernel, by decide +kernel⟩
theorem be_Wood_deep : BindEq "deep" "Wood.deep" s_Wood_deep ["self", "number"] := fun _ _ _ _ _ _ us hl => match us, hl with | [_, _], _ => rfl
theorem D_Wood_deep (T : Txt K mg base) : Def P w K mg base 1 (He.ma K (He.ga K "Wood") "deep") ["self", "number"] (spDeep K) := by
  refine mk_def T.f_Wood_deep sc_Wood_deep be_Wood_deep (fun vs H Q E h => ?_) (fun cdv A outer s H vs Q E hr h => ?_)
  · obtain ⟨L, n, rfl, _⟩ := h
    rfl
  · obtain ⟨L, n, rfl, W, F, hn, k⟩ := h
    refine ⟨_, (pss_cons (ps_set (i := 2) sc_Wood_deep.nd rfl (Or.inl rfl) pe_int)
      (pss_cons (ps_while ownE (PW.pt (pw_and (pt_cmpR op_ne (pv 1) pe_int (nomark _)) (pw_and1 (pt_cmpR op_ne (pe_fld (pe_dg (pe_fld (pv 0) (by rfl)) (pv 1) (by exact hu_of hr)) (by rfl)) pe_int (nomark _))))) (pss_cons (ps_set (i := 1) sc_Wood_deep.nd rfl (Or.inl rfl) (pe_fld (pe_dg (pe_fld (pv 0) (by rfl)) (pv 1) (by exact hu_of hr)) (by rfl)))
      (pss_one (ps_set (i := 2) sc_Wood_deep.nd rfl (Or.inl rfl) (pe_op op_add (pv 2) pe_int)))))
      (pss_one (ps_ret (pv 2))))), ?_⟩
    walk_at "rd"
    refine ⟨fun m σ H' => H' = H ∧ ∃ (i : Int) (f : Nat), σ = [some (.ref L.p), some (.int i), some (.int f)] ∧ m = i.toNat ∧ Here L i ∧ f + deepI L.rows i = deepI L.rows n, ⟨_, rfl, n, 0, rfl, rfl, hn, by omega⟩, ?_⟩
    rintro m σ H' ⟨rfl, i, f, rfl, rfl, hi, ef⟩
    walk_at "rd"
    refine ⟨rfl, ?_⟩
    by_cases h0 : i = 0
    · rw [decide_eq_true h0]
      refine iteF ?_
      have e0 : deepI L.rows i = 0 := by rw [h0]; simp [deepI, above_zero]
      rw [show f = deepI L.rows n by omega]
      exact k
    · rw [decide_eq_false h0]
      obtain ⟨e, he⟩ := hi.resolve_left h0
      have S := W.say e (findE_mem he).1
      have hr : findR L.rows i = some e.row := by rw [L.find, he]; rfl
      have ab := F.above hr
      obtain ⟨_, p1, p2, p3⟩ := F.up hr
      refine iteT (W.fsay T (W.at he ⟨_, rfl, S.funder T ⟨rfl, ?_⟩⟩))
      by_cases u0 : e.row.under = 0
      · rw [decide_eq_true (show V.int e.row.under = V.int 0 by rw [u0])]
        refine iteF ?_
        have e0 : deepI L.rows i = 0 := by simp [deepI, ab, u0, above_zero]
        rw [show f = deepI L.rows n by omega]
        exact k
      · rw [decide_eq_false (show ¬ V.int e.row.under = V.int 0 from fun z => u0 (V.int.inj z))]
        have hu : Here L e.row.under := by
          rcases F.has _ (findR_mem hr) with z | ⟨r, z⟩
          · exact absurd z u0
          · right
            rw [L.find] at z
            cases q : findE L.ents e.row.under with
            | none => rw [q] at z; cases z
            | some e' => exact ⟨e', rfl⟩
        have hd : deepI L.rows i = deepI L.rows e.row.under + 1 := by
          obtain ⟨e', q⟩ := hu.resolve_left u0
          have ab' := F.above (n := e.row.under) (r := e'.row) (by rw [L.find, q]; rfl)
          simp [deepI, ab, ab']
        refine iteT ⟨_, fun _ _ h => h, W.fsay T (W.at he ⟨_, rfl, S.funder T ⟨e.row.under.toNat, by omega, rfl, e.row.under, f + 1, ?_, rfl, hu, by omega⟩⟩)⟩
        simp
def spLook (K : PySem.W.Frag) : Sp := fun vs H Q E => ∃ (L : Lay) (x : V) (d : PyData), vs = [.ref L.p, x] ∧ WoodAt K H L ∧ Dp K H x d ∧ (∀ e, sayingD L d = some e → ∀ p H', H p = none → Same H H' → H' p = some (.tup [.str e.row.who, .int e.row.under, if e.row.struck then .non else .str e.row.text, .int e.row.time]) → Q (.ref p) H') ∧ (sayingD L d = none → Bad K E .no H)
abbrev N_Wood_look : List Str := ["self", "number", "one"]
theorem sc_Wood_look : FnScope N_Wood_look ["self", "number"] (defScope s_Wood_look) := ⟨rfl, rfl, rfl, by decide +kernel, rfl, by decide +kernel, by decide +kernel⟩
theorem be_Wood_look : BindEq "look" "Wood.look" s_Wood_look ["self", "number"] := fun _ _ _ _ _ _ us hl => match us, hl with | [_, _], _ => rfl
theorem D_Wood_look (T : Txt K mg base) : Def P w K mg base 3 (He.ma K (He.ga K "Wood") "look") ["self", "number"] (spLook K) := by
  refine mk_def T.f_Wood_look sc_Wood_look be_Wood_look (fun vs H Q E h => ?_) (fun cdv A outer s H vs Q E hr h => ?_)
  · obtain ⟨L, x, d, rfl, _⟩ := h
    rfl
  · obtain ⟨L, x, d, rfl, W, hx, k1, k0⟩ := h
    refine ⟨_, (pss_cons (ps_set (i := 2) sc_Wood_look.nd rfl (Or.inl rfl) (pe_md (pv 0) T.c_Wood.c T.m_Wood_saying (D_Wood_saying T) (by exact hr.mono (by first | decide | omega)) passE (pa_cons (pv 1) pa_nil)))
      (pss_one (ps_ret (pe_tup (pa_cons (pe_fld (pv 2) (by rfl)) (pa_cons (pe_fld (pv 2) (by rfl)) (pa_cons (pe_ifExp (pt_val (pe_fld (pv 2) (by rfl))) pe_non (pe_fld (pv 2) (by rfl))) (pa_cons (pe_fld (pv 2) (by rfl)) pa_nil)))))))), ?_⟩
    walk_at "rd"
    refine ⟨_, _, W.top, fw_no _ _ _ (by decide) (by decide) (by decide), L, x, d, rfl, W, hx, fun e he => ?_, k0⟩
    have S := W.say e (sayingD_mem he)
    refine ⟨_, rfl, S.fby T ⟨_, rfl, S.funder T ⟨_, rfl, S.fstruck T ⟨_, rfl, ?_⟩⟩⟩⟩
    have k2 := k1 e he
    cases c : e.row.struck with
    | true =>
      rw [c] at k2
      refine iteT ⟨_, rfl, S.ftime T ⟨by show 4 ≤ sizeLine; decide, fun p hp => k2 p _ hp (Same.new hp) upd_same⟩⟩
    | false =>
      rw [c] at k2
      refine iteF ⟨_, rfl, S.ftext T ⟨_, rfl, S.ftime T ⟨by show 4 ≤ sizeLine; decide, fun p hp => k2 p _ hp (Same.new hp) upd_same⟩⟩⟩
def spOwn (K : PySem.W.Frag) : Sp := fun vs H Q E => ∃ (L : Lay) (x y : V) (d b : PyData), vs = [.ref L.p, x, y] ∧ WoodAt K H L ∧ Dp K H x d ∧ Dp K H y b ∧ Short b ∧ (∀ r, ownM L.wd d b = .error r → ∀ H', Same H H' → Bad K E r H') ∧ (∀ n r, ownM L.wd d b = .ok (n, r) → ∀ e, findE L.ents n = some e → e.row = r → ∀ H', Same H H' → Q (.ref e.a) H')
abbrev N_Wood_own : List Str := ["self", "number", "by", "one"]
theorem sc_Wood_own : FnScope N_Wood_own ["self", "number", "by"] (defScope s_Wood_own) := ⟨rfl, rfl, rfl, by decide +kernel, rfl, by decide +kernel, by decide +kernel⟩
theorem be_Wood_own : BindEq "own" "Wood.own" s_Wood_own ["self", "number", "by"] := fun _ _ _ _ _ _ us hl => match us, hl with | [_, _, _], _ => rfl
theorem D_Wood_own (T : Txt K mg base) : Def P w K mg base 3 (He.ma K (He.ga K "Wood") "own") ["self", "number", "by"] (spOwn K) := by
  refine mk_def T.f_Wood_own sc_Wood_own be_Wood_own (fun vs H Q E h => ?_) (fun cdv A outer s H vs Q E hr h => ?_)
  · obtain ⟨L, x, y, d, b, rfl, _⟩ := h
    rfl
  · obtain ⟨L, x, y, d, b, rfl, W, hx, hy, hz, k0, k1⟩ := h
    refine ⟨_, (pss_cons (ps_set (i := 3) sc_Wood_own.nd rfl (Or.inl rfl) (pe_md (pv 0) T.c_Wood.c T.m_Wood_saying (D_Wood_saying T) (by exact hr.mono (by first | decide | omega)) passE (pa_cons (pv 1) pa_nil)))
      (pss_cons (ps_expr (pe_cd (D_need_name T) (by exact hr.mono (by first | decide | omega)) T.g_need_name passE (pa_cons (pv 2) pa_nil)))
      (pss_cons (ps_if (PW.pt (pw_or (pt_cmpR op_ne (pe_fld (pv 3) (by rfl)) (pv 2) (nomark _)) (pw_or1 (pt_val (pe_fld (pv 3) (by rfl)))))) (pss_one (ps_rs T.x_NotYours)) pss_nil)
      (pss_one (ps_ret (pv 3)))))), ?_⟩
    walk_at "rd"
    refine ⟨_, _, W.top, fw_no _ _ _ (by decide) (by decide) (by decide), L, x, d, rfl, W, hx, fun e he => ?_, fun h => k0 _ ?_ H (Same.refl H)⟩
    · have S := W.say e (sayingD_mem he)
      have em : sayingM L.wd d = some (e.n, e.row) := by rw [sayingME, he]; rfl
      refine ⟨y, b, rfl, hy, hz, fun hb H1 s1 => ?_, fun hb H1 s1 => k0 _ ?_ H1 s1⟩
      · have S1 := S.same s1
        have hb0 : ¬ nameOk b = false := by rw [hb]; decide
        cases hy with
        | str z =>
          refine ⟨_, rfl, S1.fby T ⟨rfl, ?_⟩⟩
          have eo : ownM L.wd d (.str z) = if isS (.str z) e.row.who = true ∧ e.row.struck = false then .ok (e.n, e.row) else .error .yours := by
            unfold ownM
            rw [em]
            exact if_neg hb0
          by_cases hw : e.row.who = z
          · rw [decide_eq_true (show V.str e.row.who = V.str z by rw [hw])]
            refine iteF ⟨_, rfl, S1.fstruck T ⟨_, rfl, ?_⟩⟩
            cases c : e.row.struck with
            | true =>
              refine iteT (k0 .yours ?_ H1 s1)
              rw [eo, c]
              simp
            | false =>
              refine iteF (k1 e.n e.row ?_ e (findE_of W.nk (sayingD_mem he)) rfl H1 s1)
              rw [eo, c]
              simp [isS, hw]
          · rw [decide_eq_false (show ¬ V.str e.row.who = V.str z from fun q => hw (V.str.inj q))]
            refine iteT (k0 .yours ?_ H1 s1)
            rw [eo]
            simp [isS, Ne.symm hw]
        | _ => cases hb
      · unfold ownM
        rw [em]
        exact if_pos hb
    · unfold ownM
      rw [sayingME, h]
      rfl
def spReplies (K : PySem.W.Frag) : Sp := fun vs H Q E => ∃ (L : Lay) (n : Int), vs = [.ref L.p, .int n] ∧ WoodAt K H L ∧ L.ents.length < 64 ∧ ∀ p H', H p = none → Same H H' → H' p = some (.lst ((sortI (repliesR L.rows n)).map V.int)) → Q (.ref p) H'
abbrev N_Wood_replies : List Str := ["self", "number", "one"]
theorem sc_Wood_replies : FnScope N_Wood_replies ["self", "number"] (defScope s_Wood_replies) := ⟨rfl, rfl, rfl, by decide +kernel, rfl, by decide +kernel, by decide +kernel⟩
theorem be_Wood_replies : BindEq "replies" "Wood.replies" s_Wood_replies ["self", "number"] := fun _ _ _ _ _ _ us hl => match us, hl with | [_, _], _ => rfl
theorem D_Wood_replies (T : Txt K mg base) : Def P w K mg base 2 (He.ma K (He.ga K "Wood") "replies") ["self", "number"] (spReplies K) := by
  refine mk_def T.f_Wood_replies sc_Wood_replies be_Wood_replies (fun vs H Q E h => ?_) (fun cdv A outer s H vs Q E hr h => ?_)
  · obtain ⟨L, n, rfl, _⟩ := h
    rfl
  · obtain ⟨L, n, rfl, W, hl, k⟩ := h
    refine ⟨_, (pss_one (ps_ret (pe_lc (own := [("one", 2)]) (g := gName 2) rfl sc_Wood_replies.nd (pi_list (pe_md0 (pv 0) T.c_Wood.c T.m_Wood_numbers (D_Wood_numbers T) (by exact hr.mono (by first | decide | omega)) passE)) (blkOk_by (N := N_Wood_replies) (sc := defScope s_Wood_replies) (by decide +kernel)) (fun _ _ _ _ _ => by exact (pg_name (i := 2) sc_Wood_replies.nd rfl (Or.inl rfl))) (fun _ _ _ _ _ => by exact (pts_one (pt_cmpR op_eq (pe_fldK K (pe_dg (pe_fldK K (pv 0)) (pv 2) (by exact hu_of hr))) (pv 1) (nomark _)))) (fun _ _ _ _ _ => by exact (pv 2))))), ?_⟩
    walk_at "rd"
    refine lcL (l := sortI (L.ents.map (·.n))) V.int (fun m => if upR L.rows m = n then some (.int m) else none) (fun R r => ?_) (by rw [sortI_length, List.length_map, sizeLine_eq]; omega) (fun m H' hm s1 N1 N0 q1 q0 => ?_) (fun D H' hD s1 e => k D H' hD s1 ?_)
    · walk_at "rd"
      exact ⟨_, _, W.top, fw_no _ _ _ (by decide) (by decide) (by decide), L, rfl, W, hl, fun p H' hp s1 e => r p H' s1 (SqL.of e)⟩
    · have W1 := W.same s1
      obtain ⟨e, he, rfl⟩ : ∃ e, e ∈ L.ents ∧ e.n = m := by
        have := (sortI_perm _).mem_iff.mp hm
        simpa using this
      have fe := findE_of W.nk he
      have S := W1.say e he
      have eu : upR L.rows e.n = e.row.under := by unfold upR; rw [L.find, fe]; rfl
      walk_at "rd"
      refine W1.fsay T (W1.at fe ⟨_, rfl, S.funder T ⟨rfl, ?_⟩⟩)
      by_cases c : e.row.under = n
      · rw [decide_eq_true (show V.int e.row.under = V.int n by rw [c])]
        exact iteT (q1 _ _ (Same.refl _) (if_pos (eu.trans c)))
      · rw [decide_eq_false (show ¬ V.int e.row.under = V.int n from fun z => c (V.int.inj z))]
        exact iteF (q0 _ (Same.refl _) (if_neg fun z => c (eu.symm.trans z)))
    · rw [e, filterMap_if, filter_sortI]
      have : (L.ents.map (·.n)).filter (fun m => decide (upR L.rows m = n)) = repliesR L.rows n := by
        unfold repliesR Lay.rows
        rw [List.filter_map, List.filter_map, List.map_map]
        show List.map _ _ = List.map _ _
        congr 1
        apply List.filter_congr
        intro e he
        show decide (upR L.rows e.n = n) = decide (e.row.under = n)
        have fe := findE_of W.nk he
        have eu : upR L.rows e.n = e.row.under := by unfold upR; rw [L.find, fe]; rfl
        rw [eu]
      rw [this]
end
end Vw
namespace Vw
open PySem PySem.Spec PyProof.Rows L2
local macro_rules | `(tactic| walk_at "rd") => `(tactic| simp only [tSeq, tNext, tIfS, tAsg, tRet, tRetN, tDrop, tVar, tC, tOp, tUn, tTest, tB, tAnd, tOr, tNot, tAndV, tOrV, tNotV, tIf, tChain, tCB, tCons, tNil, tCall, tMeth, tMake, tFld, sFld, tTup, tLst, tCmp, t2I, tIsN, tNotN, tPar, gName, gNil, gCons, gTup, gSub, rI0, rU, rEq, rNe, tDGet, tDIn, tDNotIn, sDPut, tDNewK, tDGet1, tDGet2, tDPop1, tDPop2, tBM, tBM0, tM0, tM1, tSl, tPart, tNoPart, tBreak, tCont, tThru, L2.start, List.map_cons, List.map_nil, List.length_cons, List.length_nil, List.cons_append, List.nil_append, List.append_nil, List.replicate_succ, List.replicate_zero, Nat.reduceAdd, Nat.reduceSub, Nat.zero_add, List.getElem?_cons_zero, List.getElem?_cons_succ, List.set_cons_zero, List.set_cons_succ, wipe, cxOf_K, tYes, List.cons.injEq, and_self, Option.some.injEq, V.int.injEq, V.bl.injEq, V.ref.injEq, V.str.injEq, exists_eq_left', exists_eq_left, exists_and_left, and_assoc, true_and, and_true, if_true, if_false, ite_true, ite_false, Bool.not_true, Bool.not_false, Bool.false_eq_true, reduceIte])
section
variable {P : Program} {w : World} {K : PySem.W.Frag} {mg : Str → Option Value} {base : Heap}
def spVotesOf (K : PySem.W.Frag) : Sp := fun vs H Q E => ∃ (L : Lay) (x : V) (d : PyData), vs = [.ref L.p, x] ∧ WoodAt K H L ∧ Dp K H x d ∧ (∀ e, sayingD L d = some e → ∀ p H', H p = none → Same H H' → H' p = some (.tup [.int e.row.ups, .int e.row.downs]) → Q (.ref p) H') ∧ (sayingD L d = none → Bad K E .no H)
abbrev N_Wood_votes_of : List Str := ["self", "number", "one"]
theorem sc_Wood_votes_of : FnScope N_Wood_votes_of ["self", "number"] (defScope s_Wood_votes_of) := ⟨rfl, rfl, rfl, by decide +kernel, rfl, by decide +kernel, by decide +kernel⟩
theorem be_Wood_votes_of : BindEq "votes_of" "Wood.votes_of" s_Wood_votes_of ["self", "number"] := fun _ _ _ _ _ _ us hl => match us, hl with | [_, _], _ => rfl
theorem D_Wood_votes_of (T : Txt K mg base) : Def P w K mg base 3 (He.ma K (He.ga K "Wood") "votes_of") ["self", "number"] (spVotesOf K) := by
  refine mk_def T.f_Wood_votes_of sc_Wood_votes_of be_Wood_votes_of (fun vs H Q E h => ?_) (fun cdv A outer s H vs Q E hr h => ?_)
  · obtain ⟨L, x, d, rfl, _⟩ := h
    rfl
  · obtain ⟨L, x, d, rfl, W, hx, k1, k0⟩ := h
    refine ⟨_, (pss_cons (ps_set (i := 2) sc_Wood_votes_of.nd rfl (Or.inl rfl) (pe_md (pv 0) T.c_Wood.c T.m_Wood_saying (D_Wood_saying T) (by exact hr.mono (by first | decide | omega)) passE (pa_cons (pv 1) pa_nil)))
      (pss_one (ps_ret (pe_tup (pa_cons (pe_md0 (pv 2) T.c_Saying.c T.m_Saying_ups (D_Saying_ups T) (by exact hr.mono (by first | decide | omega)) passE) (pa_cons (pe_md0 (pv 2) T.c_Saying.c T.m_Saying_downs (D_Saying_downs T) (by exact hr.mono (by first | decide | omega)) passE) pa_nil)))))), ?_⟩
    walk_at "rd"
    refine ⟨_, _, W.top, fw_no _ _ _ (by decide) (by decide) (by decide), L, x, d, rfl, W, hx, fun e he => ?_, k0⟩
    have S := W.say e (sayingD_mem he)
    refine ⟨_, rfl, _, _, S.o, fs_ups _ _, _, _, _, _, rfl, S, fun H1 s1 => ?_⟩
    have S1 := S.same s1
    refine ⟨_, rfl, _, _, S1.o, fs_downs _ _, _, _, _, _, rfl, S1, fun H2 s2 => ⟨by show 2 ≤ sizeLine; decide, fun p hp => ?_⟩⟩
    exact k1 e he p _ ((s1.trans s2).free hp) ((s1.trans s2).trans (Same.new hp)) upd_same
/-! ### Wood.below, many -/
theorem perm_flatMap {α β : Type} {f g : α → List β} : ∀ {l : List α}, (∀ a ∈ l, (f a).Perm (g a)) → (l.flatMap f).Perm (l.flatMap g)
  | [], _ => List.Perm.refl _
  | a :: r, h => by
    rw [List.flatMap_cons, List.flatMap_cons]
    exact (h a List.mem_cons_self).append (perm_flatMap fun b hb => h b (List.mem_cons_of_mem _ hb))
theorem below_perm {rs : Rows} (F : Wf rs) (n : Int) : ((sortI (repliesR rs n)).flatMap fun c => c :: sortI (beneathR rs c)).Perm (beneathR rs n) :=
  ((sortI_perm _).flatMap_right _).trans ((perm_flatMap fun c _ => (sortI_perm (beneathR rs c)).cons c).trans (beneath_step F n))
theorem below_len {rs : Rows} (F : Wf rs) (n : Int) (i : Nat) : (((sortI (repliesR rs n)).take i).flatMap fun c => c :: sortI (beneathR rs c)).length ≤ rs.length := by
  have h1 := (below_perm F n).length_eq
  have h2 : (beneathR rs n).length ≤ rs.length := by
    unfold beneathR
    exact Nat.le_trans (List.length_filter_le _ _) (by rw [List.length_map]; omega)
  have h3 : ((sortI (repliesR rs n)).flatMap fun c => c :: sortI (beneathR rs c)).length = (((sortI (repliesR rs n)).take i).flatMap fun c => c :: sortI (beneathR rs c)).length + (((sortI (repliesR rs n)).drop i).flatMap fun c => c :: sortI (beneathR rs c)).length := by
    rw [← List.length_append, ← List.flatMap_append, List.take_append_drop]
  omega
/-- how many under one are not struck -/
def manyR (rs : Rows) (n : Int) : Nat := ((beneathR rs n).filter fun m => ((findR rs m).map fun r => !r.struck).getD false).length
def isZero : PyData → Bool
  | .int n => decide (n = 0)
  | _ => false
theorem underOk_iff (L : Lay) {d : PyData} (z : isZero d = false) : underOk L.wd d = true ↔ ∃ e, sayingD L d = some e := by
  cases d with
  | int n =>
    have hn : ¬ n = 0 := by simpa [isZero] using z
    simp only [underOk, sayingD, Bool.or_eq_true, Bool.and_eq_true, decide_eq_true_eq, hn, false_or]
    show (1 ≤ n ∧ n ≤ L.came) ∧ (findR L.rows n).isSome = true ↔ _
    rw [L.find]
    constructor
    · rintro ⟨h1, h2⟩
      rw [if_pos h1]
      cases f : findE L.ents n with
      | none => rw [f] at h2; cases h2
      | some e => exact ⟨e, rfl⟩
    · rintro ⟨e, h⟩
      by_cases c : 1 ≤ n ∧ n ≤ L.came
      · rw [if_pos c] at h
        exact ⟨c, by rw [h]; rfl⟩
      · rw [if_neg c] at h
        cases h
  | _ => simp [underOk, sayingD]
def spBelow (K : PySem.W.Frag) (k : Nat) : Sp := fun vs H Q E => ∃ (L : Lay) (x : V) (d : PyData), vs = [.ref L.p, x] ∧ WoodAt K H L ∧ Good L.wd ∧ Dp K H x d ∧ SeqAt.shaped d = true ∧ (∀ n, d = .int n → 8 ≤ (aboveR L.rows n).length + k) ∧
  (underOk L.wd d = false → Bad K E .no H) ∧ (∀ n, d = .int n → underOk L.wd d = true → ∀ p H', H p = none → Same H H' → H' p = some (.lst ((sortI (beneathR L.rows n)).map V.int)) → Q (.ref p) H')
abbrev N_Wood_below : List Str := ["self", "number", "found", "one"]
theorem sc_Wood_below : FnScope N_Wood_below ["self", "number"] (defScope s_Wood_below) := ⟨rfl, rfl, rfl, by decide +kernel, rfl, by decide +kernel, by decide +kernel⟩
theorem be_Wood_below : BindEq "below" "Wood.below" s_Wood_below ["self", "number"] := fun _ _ _ _ _ _ us hl => match us, hl with | [_, _], _ => rfl
theorem D_below_none (T : Txt K mg base) : Def P w K mg base 1 (He.ma K (He.ga K "Wood") "below") ["self", "number"] (fun _ _ _ _ => False) :=
  mk_def T.f_Wood_below sc_Wood_below be_Wood_below (fun _ _ _ _ h => h.elim) (fun _ _ _ _ _ _ _ _ _ h => h.elim)
theorem below_body (T : Txt K mg base) (k j : Nat) (sp : Sp) (D_Wood_below : Txt K mg base → Def P w K mg base (j + 3) (He.ma K (He.ga K "Wood") "below") ["self", "number"] sp)
    (hsp : ∀ (L : Lay) (c : Int) (H : Hp) (Q : VK) (E : XK), WoodAt K H L → Good L.wd → (∃ r, findR L.rows c = some r) → 9 ≤ (aboveR L.rows c).length + k → (aboveR L.rows c).length ≤ 8 → k ≠ 0 ∨ (aboveR L.rows c).length ≠ 8 → (∀ p H', H p = none → Same H H' → H' p = some (.lst ((sortI (beneathR L.rows c)).map V.int)) → Q (.ref p) H') → sp [.ref L.p, .int c] H Q E) :
    Def P w K mg base (j + 4) (He.ma K (He.ga K "Wood") "below") ["self", "number"] (spBelow K k) := by
  refine mk_def T.f_Wood_below sc_Wood_below be_Wood_below (fun vs H Q E h => ?_) (fun cdv A outer s H vs Q E hr h => ?_)
  · obtain ⟨L, x, d, rfl, _⟩ := h
    rfl
  · obtain ⟨L, x, d, rfl, W, G, hx, hsh, hk, k0, k1⟩ := h
    refine ⟨_, (C8.pss_cut (ps_if (PW.pt (pw_or (pt_ned (pv 1) pe_int (by exact hr.units)) (pw_or1 (pt_val (pe_callB call_isi (by rfl) T.b_isinstance (by decide +kernel) (pa_cons (pv 1) (pa_cons (pe_bltn (v := .ty "bool") (by rfl) T.b_bool (by decide +kernel) rfl) pa_nil))))))) (pss_one (ps_expr (pe_md (pv 0) T.c_Wood.c T.m_Wood_saying (D_Wood_saying T) (by exact hr.mono (by first | decide | omega)) passE (pa_cons (pv 1) pa_nil)))) pss_nil)
      (pss_cons (ps_set (i := 2) sc_Wood_below.nd rfl (Or.inl rfl) (pe_lst pa_nil))
      (pss_cons (ps_for ownE rfl (pi_list (pe_md (pv 0) T.c_Wood.c T.m_Wood_replies (D_Wood_replies T) (by exact hr.mono (by first | decide | omega)) passE (pa_cons (pv 1) pa_nil))) (pg_name (i := 3) sc_Wood_below.nd rfl (Or.inl rfl))
      (pss_one (ps_set (i := 2) sc_Wood_below.nd rfl (Or.inl rfl) (pe_op op_cat (pe_op op_cat (pv 2) (pe_lst (pa_cons (pv 3) pa_nil))) (pe_md (pv 0) T.c_Wood.c T.m_Wood_below (D_Wood_below T) (by exact hr.mono (by first | decide | omega)) passE (pa_cons (pv 3) pa_nil))))))
      (pss_one (ps_ret (pe_callB cr_sorted (by rfl) T.b_sorted (by decide +kernel) (pa_cons (pv 2) pa_nil))))))), ?_⟩
    refine ⟨fun σ' H' => H' = H ∧ σ' = [some (.ref L.p), some x, none, none] ∧ underOk L.wd d = true, ?_, ?_⟩
    · walk_at "rd"
      have say : ∀ {Q' : VK}, (underOk L.wd d = true → Q' .non H) → isZero d = false → (∃ dx fs, H L.p = some (.ins (He.ga K "Wood") dx fs) ∧ fs.lookup (Str.ofString "saying") = none ∧ spSaying K [.ref L.p, x] H (fun _ H1 => Q' .non H1) E) := fun {Q'} q z => by
        refine ⟨_, _, W.top, fw_no _ _ _ (by decide) (by decide) (by decide), L, x, d, rfl, W, hx, fun e he => q ?_, fun h => k0 ?_⟩
        · exact (underOk_iff L z).mpr ⟨e, he⟩
        · cases c : underOk L.wd d with
          | false => rfl
          | true =>
            obtain ⟨e, he⟩ := (underOk_iff L z).mp c
            rw [he] at h
            cases h
      refine use_neD hx (.int 0) hsh rfl ⟨_, rfl, ?_⟩
      cases e0 : PyData.eqv d (.int 0) with
      | false =>
        refine iteT (say (Q' := fun _ H1 => H1 = H ∧ underOk L.wd d = true) (fun h => ⟨rfl, h⟩) ?_)
        cases d with
        | int n => 
          have : ¬ n = 0 := by rw [eqv_int] at e0; exact of_decide_eq_false e0
          simp [isZero, this]
        | _ => rfl
      | true =>
        refine iteF (use_isi hx (kit_bool _) ⟨_, rfl, ?_⟩)
        cases hx with
        | bl b => exact iteT (say (Q' := fun _ H1 => H1 = H ∧ underOk L.wd (.bool b) = true) (fun h => ⟨rfl, h⟩) rfl)
        | int n =>
          have : n = 0 := by rw [eqv_int] at e0; exact of_decide_eq_true e0
          subst this
          exact iteF ⟨rfl, rfl⟩
        | _ => cases e0
    · rintro σ' H' ⟨rfl, rfl, hu⟩
      obtain ⟨n, rfl⟩ : ∃ n, d = .int n := by
        cases d with
        | int n => exact ⟨n, rfl⟩
        | _ => cases hu
      cases hx
      have k2 := k1 n rfl hu
      have hk := hk n rfl
      walk_at "rd"
      refine ⟨Nat.zero_le _, fun q hq => ?_⟩
      have F : Wf L.rows := G.wf
      have hnn : n = 0 ∨ ∃ r, findR L.rows n = some r := by
        simp only [underOk, Bool.or_eq_true, Bool.and_eq_true, decide_eq_true_eq] at hu
        rcases hu with h | h
        · exact .inl h
        · exact .inr (Option.isSome_iff_exists.mp h.2)
      have hd8 := G.dp0 hnn
      refine forL (l := sortI (repliesR L.rows n)) V.int (fun R r => ?_)
        (fun p i σ' H1 => Same H' H1 ∧ SqL K H1 p ((sortI (repliesR L.rows n)).map V.int) ∧ ∃ (f : Addr) (v : Option V), σ' = [some (.ref L.p), some (.int n), some (.ref f), v] ∧ H' f = none ∧ H1 f = some (.lst ((((sortI (repliesR L.rows n)).take i).flatMap fun c => c :: sortI (beneathR L.rows c)).map V.int)))
        (fun p H1 s1 hp => ⟨(Same.new hq).trans s1, hp, q, none, rfl, hq, s1 _ _ upd_same⟩) (fun p i σ' H1 _ h => h.2.1) ?_ ?_
      · walk_at "rd"
        have W1 := W.same (Same.new (o := .lst []) hq)
        exact ⟨_, _, W1.top, fw_no _ _ _ (by decide) (by decide) (by decide), L, n, rfl, W1, by have := G.len; simp [Lay.wd, Lay.rows] at this; omega, fun p H1 hp s1 e => r p H1 s1 (SqL.of e)⟩
      · rintro p i c σ' H1 hc ⟨s1, hp, f, v, rfl, hf, hl⟩
        walk_at "rd"
        have hcm : c ∈ repliesR L.rows n := (sortI_perm _).mem_iff.mp (List.mem_of_getElem? hc)
        obtain ⟨rc, hrc, _⟩ := mem_replies.mp hcm
        have fc := findR_of F.nk hrc
        have abc := reply_above F hcm
        have lenc : (aboveR L.rows c).length = (aboveR L.rows n).length + 1 := by rw [abc]; rfl
        have l1 := below_len F n i
        have l2 := below_len F n (i + 1)
        have e2 : ((sortI (repliesR L.rows n)).take (i + 1)).flatMap (fun c => c :: sortI (beneathR L.rows c)) = ((sortI (repliesR L.rows n)).take i).flatMap (fun c => c :: sortI (beneathR L.rows c)) ++ [c] ++ sortI (beneathR L.rows c) := by
          rw [List.take_add_one, hc, List.flatMap_append]
          simp
        have ln := G.len
        have ln : L.rows.length ≤ 60 := ln
        have d8 : (aboveR L.rows c).length ≤ 8 := G.dp _ hrc
        refine ⟨by decide, fun a ha => ⟨f, a, _, _, rfl, rfl, (Same.new ha) _ _ hl, upd_same, ?_, fun b hb => ?_⟩⟩
        · rw [sizeLine_eq, List.length_map]
          show _ + 1 ≤ _
          omega
        · have s3 := (Same.new (o := .lst [V.int c]) ha).trans (Same.new (o := .lst ((((sortI (repliesR L.rows n)).take i).flatMap fun c => c :: sortI (beneathR L.rows c)).map V.int ++ [V.int c])) hb)
          have W3 := W.same (s1.trans s3)
          refine ⟨_, _, W3.top, fw_no _ _ _ (by decide) (by decide) (by decide), hsp L c _ _ _ W3 G ⟨rc, fc⟩ (by omega) d8 (by omega) (fun q H4 hq s4 e4 => ?_)⟩
          refine ⟨b, q, _, _, rfl, rfl, s4 _ _ upd_same, e4, ?_, fun r hr => ?_⟩
          · rw [e2] at l2
            simp only [List.length_append, List.length_map, List.length_singleton] at l2 ⊢
            rw [sizeLine_eq]
            omega
          · have s5 := (s3.trans s4).trans (Same.new (o := .lst ((((sortI (repliesR L.rows n)).take i).flatMap fun c => c :: sortI (beneathR L.rows c)).map V.int ++ [V.int c] ++ (sortI (beneathR L.rows c)).map V.int)) hr)
            refine ⟨s1.trans s5, s5.seq hp, r, rfl, s1.free ((s3.trans s4).free hr), ?_⟩
            rw [upd_same, e2]
            simp
      · rintro p σ' H1 ⟨s1, hp, f, v, rfl, hf, hl⟩
        walk_at "rd"
        rw [List.take_of_length_le (Nat.le_refl _)] at hl
        have ln := G.len
        have ln : L.rows.length ≤ 60 := ln
        have pm := below_perm F n
        have hlen := pm.length_eq
        have hle : (beneathR L.rows n).length ≤ L.rows.length := by
          unfold beneathR
          exact Nat.le_trans (List.length_filter_le _ _) (by rw [List.length_map]; omega)
        refine ⟨f, _, rfl, SqL.of hl, by omega, fun ns' q hpm hs hq => ?_⟩
        rw [sortI_eq (hpm.trans pm) hs]
        exact k2 q _ (s1.free hq) (s1.trans (Same.new hq)) upd_same
theorem D_Wood_below_at (T : Txt K mg base) : ∀ k : Nat, Def P w K mg base (k + 4) (He.ma K (He.ga K "Wood") "below") ["self", "number"] (spBelow K k)
  | 0 => below_body T 0 0 (fun _ _ _ _ => False) (fun T => (D_below_none T).mono (by omega)) fun L c H Q E W G hc h9 h8 hne _ => by omega
  | k + 1 => below_body T (k + 1) (k + 1) (spBelow K k) (fun T => D_Wood_below_at T k) fun L c H Q E W G hc h9 h8 hne q => by
    refine ⟨L, .int c, .int c, rfl, W, G, .int c, rfl, fun n e => ?_, fun h => ?_, fun n e _ p H' hp s1 hl => ?_⟩
    · cases e
      omega
    · obtain ⟨r, hr⟩ := hc
      have h1 := (G.wf.up hr).2.1
      have h2 := G.le _ (findR_mem hr)
      have h3 : (findR L.wd.rows c).isSome = true := by show (findR L.rows c).isSome = true; rw [hr]; rfl
      have h2' : c ≤ L.wd.came := h2
      have h1' : 1 ≤ c := by omega
      simp [underOk, h3, h1', h2'] at h
    · cases e
      exact q p H' hp s1 hl
theorem D_Wood_below (T : Txt K mg base) : Def P w K mg base 12 (He.ma K (He.ga K "Wood") "below") ["self", "number"] (spBelow K 8) := D_Wood_below_at T 8
def spMany (K : PySem.W.Frag) : Sp := fun vs H Q E => ∃ (L : Lay) (x : V) (d : PyData), vs = [.ref L.p, x] ∧ WoodAt K H L ∧ Good L.wd ∧ Dp K H x d ∧ SeqAt.shaped d = true ∧
  (underOk L.wd d = false → Bad K E .no H) ∧ (∀ n, d = .int n → underOk L.wd d = true → ∀ H', Same H H' → Q (.int (manyR L.rows n : Nat)) H')
abbrev N_Wood_many : List Str := ["self", "number", "one"]
theorem sc_Wood_many : FnScope N_Wood_many ["self", "number"] (defScope s_Wood_many) := ⟨rfl, rfl, rfl, by decide +kernel, rfl, by decide +kernel, by decide +kernel⟩
theorem be_Wood_many : BindEq "many" "Wood.many" s_Wood_many ["self", "number"] := fun _ _ _ _ _ _ us hl => match us, hl with | [_, _], _ => rfl
theorem D_Wood_many (T : Txt K mg base) : Def P w K mg base 13 (He.ma K (He.ga K "Wood") "many") ["self", "number"] (spMany K) := by
  refine mk_def T.f_Wood_many sc_Wood_many be_Wood_many (fun vs H Q E h => ?_) (fun cdv A outer s H vs Q E hr h => ?_)
  · obtain ⟨L, x, d, rfl, _⟩ := h
    rfl
  · obtain ⟨L, x, d, rfl, W, G, hx, hsh, k0, k1⟩ := h
    refine ⟨_, (pss_one (ps_ret (pe_callB call_len_seq (by rfl) T.b_len (by decide +kernel) (pa_cons (pe_lc (own := [("one", 2)]) (g := gName 2) rfl sc_Wood_many.nd (pi_list (pe_md (pv 0) T.c_Wood.c T.m_Wood_below (D_Wood_below T) (by exact hr.mono (by first | decide | omega)) passE (pa_cons (pv 1) pa_nil))) (blkOk_by (N := N_Wood_many) (sc := defScope s_Wood_many) (by decide +kernel)) (fun _ _ _ _ _ => by exact (pg_name (i := 2) sc_Wood_many.nd rfl (Or.inl rfl))) (fun _ _ _ _ _ => by exact (pts_one (pt_not (pt_val (pe_fldK K (pe_dg (pe_fldK K (pv 0)) (pv 2) (by exact hu_of hr))))))) (fun _ _ _ _ _ => by exact (pv 2))) pa_nil)))), ?_⟩
    walk_at "rd"
    cases hu : underOk L.wd d with
    | false =>
      refine ⟨_, rfl, L.p, _, _, rfl, W.top, fw_no _ _ _ (by decide) (by decide) (by decide), _, rfl, L, x, d, rfl, W, G, hx, hsh, fun n e => by omega, k0, fun n e h => ?_⟩
      rw [hu] at h
      cases h
    | true =>
      obtain ⟨n, rfl⟩ : ∃ n, d = .int n := by
        cases d with
        | int n => exact ⟨n, rfl⟩
        | _ => cases hu
      cases hx
      have ln : L.rows.length ≤ 60 := G.len
      have hle : (beneathR L.rows n).length ≤ L.rows.length := by
        unfold beneathR
        exact Nat.le_trans (List.length_filter_le _ _) (by rw [List.length_map]; omega)
      refine lcL (l := sortI (beneathR L.rows n)) V.int (fun m => if (((findR L.rows m).map fun r => !r.struck).getD false) = true then some (.int m) else none) (fun R r => ?_) (by rw [sortI_length, sizeLine_eq]; omega) (fun m H' hm s1 N1 N0 q1 q0 => ?_) (fun D H' hD s1 e => ?_)
      · walk_at "rd"
        refine ⟨_, _, W.top, fw_no _ _ _ (by decide) (by decide) (by decide), L, .int n, .int n, rfl, W, G, .int n, hsh, fun n e => by omega, k0, fun m e _ p H' hp s1 hl => ?_⟩
        cases e
        exact r p H' s1 (SqL.of hl)
      · have W1 := W.same s1
        obtain ⟨⟨r, hr⟩, _⟩ := mem_beneath.mp ((sortI_perm _).mem_iff.mp hm)
        obtain ⟨e, he, eq⟩ := List.mem_map.mp hr
        cases eq
        have fe := findE_of W.nk he
        have S := W1.say e he
        have eu : findR L.rows e.n = some e.row := by rw [L.find, fe]; rfl
        walk_at "rd"
        refine W1.fsay T (W1.at fe ⟨_, rfl, S.fstruck T ⟨_, rfl, ?_⟩⟩)
        cases c : e.row.struck with
        | false => exact iteT (q1 _ _ (Same.refl _) (if_pos (by rw [eu]; simp [c])))
        | true => exact iteF (q0 _ (Same.refl _) (if_neg (by rw [eu]; simp [c])))
      · refine ⟨_, rfl, _, .inl (SqL.of e), ?_⟩
        rw [filterMap_if, List.length_map]
        have : ((sortI (beneathR L.rows n)).filter fun p => decide ((((findR L.rows p).map fun r => !r.struck).getD false) = true)).length = manyR L.rows n := by
          unfold manyR
          refine ((sortI_perm _).filter _).length_eq.trans ?_
          simp
        rw [this]
        exact k1 n rfl hu H' s1
def spStanding (K : PySem.W.Frag) : Sp := fun vs H Q E => ∃ (L : Lay) (x : V) (d : PyData), vs = [.ref L.p, x] ∧ WoodAt K H L ∧ Dp K H x d ∧ Short d ∧
  (nameOk d = false → ∀ H', Same H H' → Bad K E .name H') ∧ (∀ z, d = .str z → nameOk d = true → ∀ H', Same H H' → Q (.int (standingM L.wd z)) H')
abbrev N_Wood_standing : List Str := ["self", "by", "some", "number", "one"]
theorem sc_Wood_standing : FnScope N_Wood_standing ["self", "by"] (defScope s_Wood_standing) := ⟨rfl, rfl, rfl, by decide +kernel, rfl, by decide +kernel, by decide +kernel⟩
theorem be_Wood_standing : BindEq "standing" "Wood.standing" s_Wood_standing ["self", "by"] := fun _ _ _ _ _ _ us hl => match us, hl with | [_, _], _ => rfl
theorem D_Wood_standing (T : Txt K mg base) : Def P w K mg base 3 (He.ma K (He.ga K "Wood") "standing") ["self", "by"] (spStanding K) := by
  refine mk_def T.f_Wood_standing sc_Wood_standing be_Wood_standing (fun vs H Q E h => ?_) (fun cdv A outer s H vs Q E hr h => ?_)
  · obtain ⟨L, x, d, rfl, _⟩ := h
    rfl
  · obtain ⟨L, x, d, rfl, W, hx, hz, k0, k1⟩ := h
    refine ⟨_, (pss_cons (ps_expr (pe_cd (D_need_name T) (by exact hr.mono (by first | decide | omega)) T.g_need_name passE (pa_cons (pv 1) pa_nil)))
      (pss_cons (ps_lock (ps_setLc (i := 2) (own := [("number", 3)]) (g := gName 3) rfl sc_Wood_standing.nd rfl rfl (sw_true rfl rfl rfl (by decide +kernel)) (pi_keys (pe_fld (pv 0) (by rfl))) (blkOk_by (N := N_Wood_standing) (sc := defScope s_Wood_standing) (by decide +kernel)) (fun _ _ _ _ _ => by exact (pg_name (i := 3) sc_Wood_standing.nd rfl (Or.inl rfl))) (fun _ _ _ _ _ => pts_nil) (fun _ _ _ _ _ => by exact (pe_dg (pe_fldK K (pv 0)) (pv 3) (by exact hu_of hr)))))
      (pss_one (ps_ret (pe_callB (cr_sum rfl) (by rfl) T.b_sum (by decide +kernel) (pa_cons (pe_lc (own := [("one", 4)]) (g := gName 4) rfl sc_Wood_standing.nd (pi_list (pv 2)) (blkOk_by (N := N_Wood_standing) (sc := defScope s_Wood_standing) (by decide +kernel)) (fun _ _ _ _ _ => by exact (pg_name (i := 4) sc_Wood_standing.nd rfl (Or.inl rfl))) (fun _ _ _ _ _ => by exact (pts_one (PW.pt (pw_and (pt_cmpR op_eq (pe_fldK K (pv 4)) (pv 1) (nomark _)) (pw_and1 (pt_not (pt_val (pe_fldK K (pv 4))))))))) (fun _ _ _ _ _ => by exact (pe_md0 (pv 4) T.c_Saying.c T.m_Saying_points (D_Saying_points T) (by exact hr.mono (by first | decide | omega)) passF))) pa_nil)))))), ?_⟩
    walk_at "rd"
    refine ⟨x, d, rfl, hx, hz, fun hn H1 s1 => ?_, k0⟩
    have W1 := W.same s1
    cases hx with
    | str z =>
      refine lkA (lcK (l := L.ents) (d := L.d) entK (fun e => some (.ref e.a)) W1.dic (fun H' R hk q => ?_) (by have := W.sz; rw [sizeLine_eq]; omega) (fun e H' od he hk hv N1 N0 q1 q0 => ?_) (fun D H' hD s2 e => ?_))
      · walk_at "rd"
        exact fld (hk _ _ (ne_of W1.top W1.dic (by intro q; cases q)) W1.top) T.c_Wood.c T.n_Wood_sayings (fw_sayings _ _ _) q
      · walk_at "rd"
        refine fld (hk _ _ (ne_of W1.top W1.dic (by intro q; cases q)) W1.top) T.c_Wood.c T.n_Wood_sayings (fw_sayings _ _ _) ⟨_, rfl, _, .inl ⟨_, _, .inr ⟨_, hv⟩, rfl, ?_⟩, q1 _ _ (Same.refl _) rfl⟩
        show _ = valV _ (Sum.inl e.n)
        rw [valE, findE_of W.nk he]
        rfl
      · have W2 := W1.same s2
        have e : H' D = some (.lst (L.ents.map fun e => V.ref e.a)) := by rw [e, List.filterMap_eq_map']
        walk_at "rd"
        refine lcL (l := L.ents) (fun e => .ref e.a) (fun e => if e.row.who = z ∧ e.row.struck = false then some (.int e.row.points) else none) (fun R r => ⟨_, rfl, r D H' (Same.refl _) (SqL.of e)⟩) (by have := W.sz; rw [sizeLine_eq]; omega) (fun e H3 he s3 N1 N0 q1 q0 => ?_) (fun D2 H3 hD2 s3 e3 => ?_)
        · have S := W2.say e he
          have S := S.same s3
          walk_at "rd"
          refine S.fby T ⟨rfl, ?_⟩
          by_cases c : e.row.who = z
          · rw [decide_eq_true (show V.str e.row.who = V.str z by rw [c])]
            refine iteT (S.fstruck T ⟨_, rfl, ?_⟩)
            cases b : e.row.struck with
            | false =>
              refine iteT ⟨_, _, S.o, fs_points _ _, _, _, _, _, rfl, S, fun H4 s4 => q1 _ _ s4 (if_pos ⟨c, b⟩)⟩
            | true => exact iteF (q0 _ (Same.refl _) (if_neg (by rw [b]; simp)))
          · rw [decide_eq_false (show ¬ V.str e.row.who = V.str z from fun q => c (V.str.inj q))]
            exact iteF (q0 _ (Same.refl _) (if_neg fun h => c h.1))
        · refine ⟨_, _, rfl, SqL.of (xs := ((L.ents.filter fun e => decide (e.row.who = z ∧ e.row.struck = false)).map fun e => e.row.points).map V.int) ?_, ?_⟩
          · rw [e3, filterMap_if, List.map_map]
            rfl
          · have es : ((L.ents.filter fun e => decide (e.row.who = z ∧ e.row.struck = false)).map fun e => e.row.points).sum = standingM L.wd z := by
              unfold standingM Lay.wd Lay.rows
              rw [List.filter_map, List.map_map]
              congr 2
              apply List.filter_congr
              intro e _
              show decide (e.row.who = z ∧ e.row.struck = false) = (decide (e.row.who = z) && !e.row.struck)
              cases e.row.struck <;> simp
            rw [es]
            exact k1 z rfl hn H3 ((s1.trans s2).trans s3)
    | _ => cases hn
end
end Vw
namespace Vw
open PySem PySem.Spec PyProof.Rows L2
local macro_rules | `(tactic| walk_at "rd") => `(tactic| simp only [tSeq, tNext, tIfS, tAsg, tRet, tRetN, tDrop, tVar, tC, tOp, tUn, tTest, tB, tAnd, tOr, tNot, tAndV, tOrV, tNotV, tIf, tChain, tCB, tCons, tNil, tCall, tMeth, tMake, tFld, sFld, tTup, tLst, tCmp, t2I, tIsN, tNotN, tPar, gName, gNil, gCons, gTup, gSub, rI0, rU, rEq, rNe, tDGet, tDIn, tDNotIn, sDPut, tDNewK, tDGet1, tDGet2, tDPop1, tDPop2, tBM, tBM0, tM0, tM1, tSl, tPart, tNoPart, tBreak, tCont, tThru, L2.start, List.map_cons, List.map_nil, List.length_cons, List.length_nil, List.cons_append, List.nil_append, List.append_nil, List.replicate_succ, List.replicate_zero, Nat.reduceAdd, Nat.reduceSub, Nat.zero_add, List.getElem?_cons_zero, List.getElem?_cons_succ, List.set_cons_zero, List.set_cons_succ, wipe, cxOf_K, tYes, List.cons.injEq, and_self, Option.some.injEq, V.int.injEq, V.bl.injEq, V.ref.injEq, V.str.injEq, exists_eq_left', exists_eq_left, exists_and_left, and_assoc, true_and, and_true, if_true, if_false, ite_true, ite_false, Bool.not_true, Bool.not_false, Bool.false_eq_true, reduceIte])
/-! ### a wood that is changed: what it stands on, a step -/
def foot (L : Lay) : List Addr := L.p :: L.d :: (L.ents.map (·.a) ++ L.ents.map (·.v))
structure Step (H : Hp) (L : Lay) (H' : Hp) (L' : Lay) : Prop where
  p : L'.p = L.p
  keep : ∀ b o, b ∉ foot L → H b = some o → H' b = some o
  new : ∀ b ∈ foot L', b ∈ foot L ∨ H b = none
theorem Step.same {H H' : Hp} {L : Lay} (s : Same H H') : Step H L H' L := ⟨rfl, fun b o _ e => s b o e, fun b hb => .inl hb⟩
theorem Step.trans {H H1 H2 : Hp} {L L1 L2 : Lay} (a : Step H L H1 L1) (b : Step H1 L1 H2 L2) : Step H L H2 L2 := by
  refine ⟨b.p.trans a.p, fun c o hc e => b.keep c o (fun h => ?_) (a.keep c o hc e), fun c hc => ?_⟩
  · rcases a.new c h with z | z
    · exact hc z
    · rw [z] at e
      cases e
  · rcases b.new c hc with z | z
    · exact a.new c z
    · by_cases h : c ∈ foot L
      · exact .inl h
      · right
        cases q : H c with
        | none => rfl
        | some o =>
          rw [a.keep c o h q] at z
          cases z
theorem inj_nodup {α β : Type} {f : α → β} : ∀ {l : List α}, (l.map f).Nodup → ∀ {a b : α}, a ∈ l → b ∈ l → f a = f b → a = b
  | [], _, _, _, h, _, _ => by cases h
  | c :: r, h, a, b, ha, hb, e => by
    simp only [List.map_cons, List.nodup_cons] at h
    rcases List.mem_cons.mp ha with h1 | h1
    · rcases List.mem_cons.mp hb with h2 | h2
      · rw [h1, h2]
      · exact absurd (List.mem_map.mpr ⟨b, h2, by rw [← e, h1]⟩) h.1
    · rcases List.mem_cons.mp hb with h2 | h2
      · exact absurd (List.mem_map.mpr ⟨a, h1, by rw [e, h2]⟩) h.1
      · exact inj_nodup h.2 h1 h2 e
def setE (es : List Ent) (n : Int) (r : Row) : List Ent := es.map fun e => if e.n = n then { e with row := r } else e
theorem setE_map {β : Type} (f : Ent → β) (hf : ∀ e r, f { e with row := r } = f e) (es : List Ent) (n : Int) (r : Row) : (setE es n r).map f = es.map f := by
  unfold setE
  rw [List.map_map]
  apply List.map_congr_left
  intro e _
  show f (if e.n = n then _ else _) = f e
  split
  · exact hf e r
  · rfl
theorem setE_rows (es : List Ent) (n : Int) (r : Row) : (setE es n r).map (fun e => (e.n, e.row)) = setR (es.map fun e => (e.n, e.row)) n r := by
  unfold setE setR
  rw [List.map_map, List.map_map]
  apply List.map_congr_left
  intro e _
  show ((if e.n = n then { e with row := r } else e).n, (if e.n = n then { e with row := r } else e).row) = if e.n = n then (n, r) else (e.n, e.row)
  by_cases h : e.n = n <;> simp [h]
theorem mem_setE {es : List Ent} {n : Int} {r : Row} {e : Ent} (h : e ∈ setE es n r) : ∃ e0 ∈ es, e.a = e0.a ∧ e.x = e0.x ∧ e.v = e0.v ∧ e.n = e0.n ∧ ((e0.n = n ∧ e.row = r) ∨ (e0.n ≠ n ∧ e = e0)) := by
  obtain ⟨e0, h0, rfl⟩ := List.mem_map.mp h
  refine ⟨e0, h0, ?_⟩
  by_cases c : e0.n = n
  · simp [c]
  · simp [c]
/-- the row of one entry is another one: its object, its votes may be written -/
theorem WoodAt.set {K : PySem.W.Frag} {H H' : Hp} {L : Lay} (W : WoodAt K H L) {e : Ent} (he : e ∈ L.ents) {r : Row} (S : SayAt K H' e.a e.x e.v r) (k : ∀ b o, b ≠ e.a → b ≠ e.v → H b = some o → H' b = some o) : WoodAt K H' { L with ents := setE L.ents e.n r } := by
  have Se := W.say e he
  have n1 : L.p ≠ e.v := ne_of W.top Se.d (by intro q; cases q)
  have n2 : L.d ≠ e.a := ne_of W.dic Se.o (by intro q; cases q)
  refine ⟨k _ _ (W.pa e he).symm n1 W.top, ?_, fun e' h' => ?_, ?_, ?_, ?_, fun e' h' => ?_, fun e' h' => ?_, ?_⟩
  · show H' L.d = some (.dK ((setE L.ents e.n r).map entK))
    rw [setE_map entK (fun _ _ => rfl)]
    exact k _ _ n2 (W.dv e he).symm W.dic
  · obtain ⟨e0, h0, ha, hx, hv, hn, h⟩ := mem_setE h'
    rcases h with ⟨hn0, hr⟩ | ⟨hn0, rfl⟩
    · have : e0 = e := inj_nodup W.nk h0 he hn0
      subst this
      rw [ha, hx, hv, hr]
      exact S
    · have S0 := W.say e' h0
      have na : e'.a ≠ e.a := fun z => hn0 (congrArg Ent.n (inj_nodup W.nda h0 he z))
      have nv : e'.v ≠ e.v := fun z => hn0 (congrArg Ent.n (inj_nodup W.ndv h0 he z))
      exact ⟨k _ _ na (ne_of S0.o Se.d (by intro q; cases q)) S0.o, k _ _ (ne_of S0.d Se.o (by intro q; cases q)) nv S0.d, S0.nd, S0.sz⟩
  · show ((setE L.ents e.n r).map (·.n)).Nodup
    rw [setE_map _ (fun _ _ => rfl)]
    exact W.nk
  · show ((setE L.ents e.n r).map (·.a)).Nodup
    rw [setE_map _ (fun _ _ => rfl)]
    exact W.nda
  · show ((setE L.ents e.n r).map (·.v)).Nodup
    rw [setE_map _ (fun _ _ => rfl)]
    exact W.ndv
  · obtain ⟨e0, h0, ha, hx, hv, hn, _⟩ := mem_setE h'
    rw [hv]
    exact W.dv e0 h0
  · obtain ⟨e0, h0, ha, hx, hv, hn, _⟩ := mem_setE h'
    rw [ha]
    exact W.pa e0 h0
  · show (setE L.ents e.n r).length < 100000
    unfold setE
    rw [List.length_map]
    exact W.sz
theorem foot_set (L : Lay) (n : Int) (r : Row) : foot { L with ents := setE L.ents n r } = foot L := by
  unfold foot
  show L.p :: L.d :: ((setE L.ents n r).map (·.a) ++ (setE L.ents n r).map (·.v)) = _
  rw [setE_map _ (fun _ _ => rfl), setE_map _ (fun _ _ => rfl)]
theorem mem_foot_a {L : Lay} {e : Ent} (he : e ∈ L.ents) : e.a ∈ foot L := List.mem_cons_of_mem _ (List.mem_cons_of_mem _ (List.mem_append_left _ (List.mem_map.mpr ⟨e, he, rfl⟩)))
theorem mem_foot_v {L : Lay} {e : Ent} (he : e ∈ L.ents) : e.v ∈ foot L := List.mem_cons_of_mem _ (List.mem_cons_of_mem _ (List.mem_append_right _ (List.mem_map.mpr ⟨e, he, rfl⟩)))
theorem Step.set {H H' : Hp} {L : Lay} {e : Ent} (he : e ∈ L.ents) {r : Row} (k : ∀ b o, b ≠ e.a → b ≠ e.v → H b = some o → H' b = some o) : Step H L H' { L with ents := setE L.ents e.n r } :=
  ⟨rfl, fun b o hb q => k b o (fun z => hb (z ▸ mem_foot_a he)) (fun z => hb (z ▸ mem_foot_v he)) q, fun b hb => .inl (by rw [foot_set] at hb; exact hb)⟩
/-- one entry goes -/
theorem WoodAt.pop {K : PySem.W.Frag} {H : Hp} {L : Lay} (W : WoodAt K H L) (n : Int) : WoodAt K (upd H L.d (.dK (dropK (L.ents.map entK) (Sum.inl n)))) { L with ents := L.ents.filter fun e => decide (e.n ≠ n) } := by
  have sub : (L.ents.filter fun e => decide (e.n ≠ n)).Sublist L.ents := List.filter_sublist
  have npd : L.p ≠ L.d := ne_of W.top W.dic (by intro q; cases q)
  refine ⟨by show upd H L.d _ L.p = _; rw [upd_ne npd]; exact W.top, ?_, fun e he => ?_, W.nk.sublist (sub.map _), W.nda.sublist (sub.map _), W.ndv.sublist (sub.map _), fun e he => W.dv e (sub.mem he), fun e he => W.pa e (sub.mem he), Nat.lt_of_le_of_lt sub.length_le W.sz⟩
  · show upd H L.d _ L.d = some (.dK ((L.ents.filter fun e => decide (e.n ≠ n)).map entK))
    rw [upd_same]
    unfold dropK
    rw [List.filter_map]
    congr 3
    apply List.filter_congr
    intro e _
    show decide ((Sum.inl e.n : Key) ≠ Sum.inl n) = decide (e.n ≠ n)
    simp
  · have S := W.say e (sub.mem he)
    exact ⟨by rw [upd_ne (ne_of S.o W.dic (by intro q; cases q))]; exact S.o, by rw [upd_ne (W.dv e (sub.mem he))]; exact S.d, S.nd, S.sz⟩
theorem Step.pop {H : Hp} {L : Lay} (n : Int) (o : HO) : Step H L (upd H L.d o) { L with ents := L.ents.filter fun e => decide (e.n ≠ n) } := by
  refine ⟨rfl, fun b u hb e => ?_, fun b hb => .inl ?_⟩
  · rw [upd_ne (fun z => hb (by rw [z]; exact List.mem_cons_of_mem _ List.mem_cons_self))]
    exact e
  · have sub : (L.ents.filter fun e => decide (e.n ≠ n)).Sublist L.ents := List.filter_sublist
    have hb : b ∈ L.p :: L.d :: ((L.ents.filter fun e => decide (e.n ≠ n)).map (·.a) ++ (L.ents.filter fun e => decide (e.n ≠ n)).map (·.v)) := hb
    exact (List.Sublist.cons₂ _ (List.Sublist.cons₂ _ ((sub.map _).append (sub.map _)))).mem hb
theorem pop_rows (L : Lay) (n : Int) : ({ L with ents := L.ents.filter fun e => decide (e.n ≠ n) } : Lay).rows = dropR L.rows n := by
  unfold Lay.rows dropR
  rw [List.filter_map]
  rfl
theorem dropK_votes (vs : List (Str × Int)) (who : Str) : dropK (votesK vs) (Sum.inr who) = votesK (vs.filter fun p => decide (p.1 ≠ who)) := by
  unfold dropK votesK
  rw [List.filter_map]
  congr 1
  apply List.filter_congr
  intro p _
  show decide ((Sum.inr p.1 : Key) ≠ Sum.inr who) = decide (p.1 ≠ who)
  simp
theorem votes_none {vs : List (Str × Int)} {who : Str} (h : valV (votesK vs) (Sum.inr who) = none) : ∀ p ∈ vs, p.1 ≠ who := fun p hp e => by
  have q := valV_not h
  apply q
  unfold votesK
  rw [List.map_map]
  exact List.mem_map.mpr ⟨p, hp, by rw [← e]; rfl⟩
/-- votes.pop(who, None) -/
theorem pop_any {H : Hp} {v : Addr} {vs : List (Str × Int)} {who : Str} {G : Hp → Prop} (h : H v = some (.dK (votesK vs)))
    (g : ∀ H2, H2 v = some (.dK (votesK (vs.filter fun p => decide (p.1 ≠ who)))) → (∀ b o, b ≠ v → H b = some o → H2 b = some o) → G H2) :
    ∃ a, V.ref v = V.ref a ∧ IsD H a ∧ ∃ kvs, H a = some (.dK kvs) ∧ ∃ k, V.str who = kV k ∧ (∀ u, valV kvs k = some u → G (upd H a (.dK (dropK kvs k)))) ∧ (valV kvs k = none → G H) := by
  refine ⟨v, rfl, .inl ⟨_, .inl h⟩, _, h, Sum.inr who, rfl, fun u _ => g _ ?_ fun b o hb e => by rw [upd_ne hb]; exact e, fun hn => g H ?_ fun _ _ _ e => e⟩
  · rw [upd_same, dropK_votes]
  · have z := votes_none hn
    have : vs.filter (fun p => decide (p.1 ≠ who)) = vs := List.filter_eq_self.mpr fun p hp => by simpa using z p hp
    rw [this]
    exact h
section
variable {P : Program} {w : World} {K : PySem.W.Frag} {mg : Str → Option Value} {base : Heap}
/-- what a deed that changes the wood leaves -/
def Told (K : PySem.W.Frag) (H : Hp) (L : Lay) (Q : VK) (E : XK) (v : V) (r : Except Er Wd) : Prop :=
  (∀ M, r = .ok M → ∀ H' L', WoodAt K H' L' → L'.wd = M → Step H L H' L' → Q v H') ∧ (∀ e, r = .error e → ∀ H', Same H H' → Bad K E e H')
def spChange (K : PySem.W.Frag) : Sp := fun vs H Q E => ∃ (L : Lay) (x y z : V) (d b t : PyData), vs = [.ref L.p, x, y, z] ∧ WoodAt K H L ∧ Dp K H x d ∧ Dp K H y b ∧ Dp K H z t ∧ Short b ∧ Short t ∧ Told K H L Q E .non (changeM L.wd d b t)
abbrev N_Wood_change : List Str := ["self", "number", "by", "text", "one"]
theorem sc_Wood_change : FnScope N_Wood_change ["self", "number", "by", "text"] (defScope s_Wood_change) := ⟨rfl, rfl, rfl, by decide +kernel, rfl, by decide +kernel, by decide +kernel⟩
theorem be_Wood_change : BindEq "change" "Wood.change" s_Wood_change ["self", "number", "by", "text"] := fun _ _ _ _ _ _ us hl => match us, hl with | [_, _, _, _], _ => rfl
theorem D_Wood_change (T : Txt K mg base) : Def P w K mg base 4 (He.ma K (He.ga K "Wood") "change") ["self", "number", "by", "text"] (spChange K) := by
  refine mk_def T.f_Wood_change sc_Wood_change be_Wood_change (fun vs H Q E h => ?_) (fun cdv A outer s H vs Q E hr h => ?_)
  · obtain ⟨L, x, y, z, d, b, t, rfl, _⟩ := h
    rfl
  · obtain ⟨L, x, y, z, d, b, t, rfl, W, hx, hy, hz, sb, st, k1, k0⟩ := h
    refine ⟨_, (pss_cons (ps_set (i := 4) sc_Wood_change.nd rfl (Or.inl rfl) (pe_md (pv 0) T.c_Wood.c T.m_Wood_own (D_Wood_own T) (by exact hr.mono (by first | decide | omega)) passE (pa_cons (pv 1) (pa_cons (pv 2) pa_nil))))
      (pss_cons (ps_expr (pe_cd (D_need_text T) (by exact hr.mono (by first | decide | omega)) T.g_need_text passE (pa_cons (pv 3) pa_nil)))
      (pss_one (ps_fld (pv 4) (pv 3) (by rfl))))), ?_⟩
    walk_at "rd"
    refine ⟨_, _, W.top, fw_no _ _ _ (by decide) (by decide) (by decide), L, x, y, d, b, rfl, W, hx, hy, sb, fun r hr H1 s1 => k0 r ?_ H1 s1, fun n r hr e he er H1 s1 => ?_⟩
    · unfold changeM
      rw [hr]
    · have W1 := W.same s1
      refine ⟨z, t, rfl, dp_same s1 hz, st, fun ht H2 s2 => ?_, fun ht H2 s2 => k0 .text ?_ H2 (s1.trans s2)⟩
      · have W2 := W1.same s2
        have S := W2.say e (findE_mem he).1
        cases hz with
        | str u =>
          have en := (findE_mem he).2
          have nva : e.v ≠ e.a := ne_of S.d S.o (by intro q; cases q)
          refine ⟨_, rfl, _, _, _, S.o, T.c_Saying.c, T.n_Saying_text, by rw [fs_len]; decide, ?_⟩
          rw [fp_text]
          have kp : ∀ b o, b ≠ e.a → b ≠ e.v → H2 b = some o → upd H2 e.a (.ins (cS K) e.x (sayFs { e.row with text := u } e.v)) b = some o := fun b o h1 _ q => by rw [upd_ne h1]; exact q
          refine k1 { L.wd with rows := setR L.rows n { r with text := u } } ?_ _ _ (W2.set (findE_mem he).1 (r := { e.row with text := u }) ⟨upd_same, by rw [upd_ne nva]; exact S.d, S.nd, S.sz⟩ kp) ?_ ((Step.same (s1.trans s2)).trans (Step.set (findE_mem he).1 kp))
          · unfold changeM
            rw [hr]
            exact if_pos ht
          · rw [en, ← er]
            unfold Lay.wd Lay.rows
            rw [setE_rows]
        | _ => cases ht
      · unfold changeM
        rw [hr]
        cases t with
        | str u => exact if_neg (by simpa [textOk] using ht)
        | _ => rfl
def spVote (K : PySem.W.Frag) : Sp := fun vs H Q E => ∃ (L : Lay) (x y z : V) (d b t : PyData), vs = [.ref L.p, x, y, z] ∧ WoodAt K H L ∧ Dp K H x d ∧ Dp K H y b ∧ Dp K H z t ∧ Short b ∧ (∀ e ∈ L.ents, e.row.votes.length < 99999) ∧
  (∀ p M, voteM L.wd d b t = .ok (p, M) → ∀ H' L', WoodAt K H' L' → L'.wd = M → Step H L H' L' → Q (.int p) H') ∧ (∀ e, voteM L.wd d b t = .error e → ∀ H', Same H H' → Bad K E e H')
abbrev N_Wood_vote : List Str := ["self", "number", "by", "way", "one"]
theorem sc_Wood_vote : FnScope N_Wood_vote ["self", "number", "by", "way"] (defScope s_Wood_vote) := ⟨rfl, rfl, rfl, by decide +kernel, rfl, by decide +kernel, by decide +kernel⟩
theorem be_Wood_vote : BindEq "vote" "Wood.vote" s_Wood_vote ["self", "number", "by", "way"] := fun _ _ _ _ _ _ us hl => match us, hl with | [_, _, _, _], _ => rfl
theorem D_Wood_vote (T : Txt K mg base) : Def P w K mg base 3 (He.ma K (He.ga K "Wood") "vote") ["self", "number", "by", "way"] (spVote K) := by
  refine mk_def T.f_Wood_vote sc_Wood_vote be_Wood_vote (fun vs H Q E h => ?_) (fun cdv A outer s H vs Q E hr h => ?_)
  · obtain ⟨L, x, y, z, d, b, t, rfl, _⟩ := h
    rfl
  · obtain ⟨L, x, y, z, d, b, t, rfl, W, hx, hy, hz, sb, hsz, k1, k0⟩ := h
    refine ⟨_, (pss_cons (ps_set (i := 4) sc_Wood_vote.nd rfl (Or.inl rfl) (pe_md (pv 0) T.c_Wood.c T.m_Wood_saying (D_Wood_saying T) (by exact hr.mono (by first | decide | omega)) passE (pa_cons (pv 1) pa_nil)))
      (pss_cons (ps_expr (pe_cd (D_need_name T) (by exact hr.mono (by first | decide | omega)) T.g_need_name passE (pa_cons (pv 2) pa_nil)))
      (pss_cons (ps_if (pt_not (pt_val (pe_cd (D_is_count T) (by exact hr.mono (by first | decide | omega)) T.g_is_count passE (pa_cons (pv 3) (pa_cons (pe_un un_neg pe_int) (pa_cons pe_int pa_nil)))))) (pss_one (ps_rs T.x_BadNumber)) pss_nil)
      (pss_cons (ps_if (PW.pt (pw_or (pt_cmpR op_eq (pe_fld (pv 4) (by rfl)) (pv 2) (nomark _)) (pw_or1 (pt_val (pe_fld (pv 4) (by rfl)))))) (pss_one (ps_rs T.x_NotYours)) pss_nil)
      (pss_cons (ps_expr (pe_dp2 (pe_fld (pv 4) (by rfl)) (pv 2) pe_non))
      (C8.pss_cut (ps_if (pt_cmpR op_ne (pv 3) pe_int (nomark _)) (pss_one (ps_dp (pe_fld (pv 4) (by rfl)) (pv 2) (pv 3) (by exact hu_of hr))) pss_nil)
      (pss_one (ps_ret (pe_md0 (pv 4) T.c_Saying.c T.m_Saying_points (D_Saying_points T) (by exact hr.mono (by first | decide | omega)) passE))))))))), ?_⟩
    walk_at "rd"
    refine ⟨_, _, W.top, fw_no _ _ _ (by decide) (by decide) (by decide), L, x, d, rfl, W, hx, fun e he => ?_, fun h => k0 .no ?_ H (Same.refl H)⟩
    · have em : sayingM L.wd d = some (e.n, e.row) := by rw [sayingME, he]; rfl
      have hm := sayingD_mem he
      refine ⟨y, b, rfl, hy, sb, fun hb H1 s1 => ?_, fun hb H1 s1 => k0 .name ?_ H1 s1⟩
      · have hb0 : ¬ nameOk b = false := by rw [hb]; decide
        have W1 := W.same s1
        have S := W1.say e hm
        refine ⟨z, t, _, _, rfl, dp_same s1 hz, _, rfl, ?_⟩
        cases hc : isCount t (-1) 1 with
        | false =>
          refine iteT (k0 .number ?_ H1 s1)
          unfold voteM
          rw [em]
          show (if nameOk b = false then _ else if isCount t (-1) 1 = false then _ else _) = _
          rw [if_neg hb0, if_pos hc]
        | true =>
          refine iteF ?_
          have hc0 : ¬ isCount t (-1) 1 = false := by rw [hc]; decide
          cases hz with
          | int way =>
            cases hy with
            | str who =>
              have ev : voteM L.wd d (.str who) (.int way) = if e.row.who = who ∨ e.row.struck = true then .error .yours else .ok (Row.points { e.row with votes := votesM e.row.votes who way }, { L.wd with rows := setR L.wd.rows e.n { e.row with votes := votesM e.row.votes who way } }) := by
                unfold voteM
                rw [em]
                show (if nameOk (.str who) = false then _ else if isCount (.int way) (-1) 1 = false then _ else _) = _
                rw [if_neg hb0, if_neg hc0]
              refine ⟨_, rfl, S.fby T ⟨rfl, ?_⟩⟩
              by_cases hw : e.row.who = who
              · rw [decide_eq_true (show V.str e.row.who = V.str who by rw [hw])]
                refine iteT (k0 .yours ?_ H1 s1)
                rw [ev, if_pos (.inl hw)]
              · rw [decide_eq_false (show ¬ V.str e.row.who = V.str who from fun q => hw (V.str.inj q))]
                refine iteF ⟨_, rfl, S.fstruck T ⟨_, rfl, ?_⟩⟩
                cases hst : e.row.struck with
                | true =>
                  refine iteT (k0 .yours ?_ H1 s1)
                  rw [ev, if_pos (.inr hst)]
                | false =>
                  refine iteF ⟨_, rfl, S.fvotes T (pop_any S.d fun H2 h2 q2 => ?_)⟩
                  have nva : e.a ≠ e.v := ne_of S.o S.d (by intro q; cases q)
                  have o2 := q2 _ _ nva S.o
                  have ndf : ((e.row.votes.filter fun p => decide (p.1 ≠ who)).map (·.1)).Nodup := S.nd.sublist (List.Sublist.map _ List.filter_sublist)
                  have szf : (e.row.votes.filter fun p => decide (p.1 ≠ who)).length ≤ e.row.votes.length := List.length_filter_le _ _
                  have sz := hsz e hm
                  have fin : ∀ H3, SayAt K H3 e.a e.x e.v { e.row with votes := votesM e.row.votes who way } → (∀ b o, b ≠ e.a → b ≠ e.v → H1 b = some o → H3 b = some o) → ∀ H4, Same H3 H4 → Q (.int (Row.points { e.row with votes := votesM e.row.votes who way })) H4 := fun H3 S3 k3 H4 s4 => by
                    refine k1 _ { L.wd with rows := setR L.rows e.n { e.row with votes := votesM e.row.votes who way } } ?_ H4 _ ((W1.set hm S3 k3).same s4) ?_ (((Step.same s1).trans (Step.set hm k3)).trans (Step.same s4))
                    · rw [ev, if_neg (by simp [hw, hst])]
                      rfl
                    · unfold Lay.wd Lay.rows
                      rw [setE_rows]
                  refine ⟨fun σ' H3 => σ' = [some (.ref L.p), some x, some (.str who), some (.int way), some (.ref e.a)] ∧ SayAt K H3 e.a e.x e.v { e.row with votes := votesM e.row.votes who way } ∧ (∀ b o, b ≠ e.a → b ≠ e.v → H1 b = some o → H3 b = some o), ?_, ?_⟩
                  · walk_at "rd"
                    refine ⟨rfl, ?_⟩
                    by_cases w0 : way = 0
                    · rw [decide_eq_true w0]
                      have ev0 : votesM e.row.votes who way = e.row.votes.filter fun p => decide (p.1 ≠ who) := if_pos w0
                      refine iteF ⟨⟨o2, by rw [h2]; show _ = some (HO.dK (votesK (votesM e.row.votes who way))); rw [ev0], by show ((votesM e.row.votes who way).map (·.1)).Nodup; rw [ev0]; exact ndf, by show (votesM e.row.votes who way).length < 100000; rw [ev0]; omega⟩, fun b o h1 hv q => q2 b o hv q⟩
                    · rw [decide_eq_false w0]
                      have ev0 : votesM e.row.votes who way = (e.row.votes.filter fun p => decide (p.1 ≠ who)) ++ [(who, way)] := if_neg w0
                      have hno : ∀ p ∈ e.row.votes.filter (fun p => decide (p.1 ≠ who)), p.1 ≠ who := fun p hp => by simpa using (List.mem_filter.mp hp).2
                      have vn : valV (votesK (e.row.votes.filter fun p => decide (p.1 ≠ who))) (Sum.inr who) = none := by
                        cases q : valV (votesK (e.row.votes.filter fun p => decide (p.1 ≠ who))) (Sum.inr who) with
                        | none => rfl
                        | some u =>
                          have m := valV_in q
                          unfold votesK at m
                          rw [List.map_map] at m
                          obtain ⟨p, hp, ep⟩ := List.mem_map.mp m
                          exact absurd (Sum.inr.inj ep) (hno p hp)
                      refine iteT (fld o2 T.c_Saying.c T.n_Saying_votes (fs_votes _ _) ⟨_, rfl, _, DPut.k (k := Sum.inr who) h2 (by unfold votesK; rw [List.length_map, sizeLine_eq]; omega), ⟨?_, ?_, ?_, ?_⟩, fun b o h1 hv q => ?_⟩)
                      · rw [upd_ne nva]
                        exact o2
                      · rw [upd_same, putK_new _ vn]
                        show some (HO.dK (votesK _ ++ [voteK (who, way)])) = some (HO.dK (votesK (votesM e.row.votes who way)))
                        rw [ev0]
                        simp [votesK]
                      · show ((votesM e.row.votes who way).map (·.1)).Nodup
                        rw [ev0, List.map_append]
                        refine nd_snoc ndf fun m => ?_
                        obtain ⟨p, hp, ep⟩ := List.mem_map.mp m
                        exact hno p hp ep
                      · show (votesM e.row.votes who way).length < 100000
                        rw [ev0, List.length_append, List.length_singleton]
                        omega
                      · rw [upd_ne hv]
                        exact q2 b o hv q
                  · rintro σ' H3 ⟨rfl, S3, k3⟩
                    walk_at "rd"
                    exact ⟨_, _, S3.o, fs_points _ _, _, _, _, _, rfl, S3, fun H4 s4 => fin H3 S3 k3 H4 s4⟩
            | _ => cases hb
          | _ => cases hc
      · unfold voteM
        rw [em]
        exact if_pos hb
    · unfold voteM
      rw [sayingME, h]
      rfl
/-! ### Wood.strike -/
def spStrike (K : PySem.W.Frag) : Sp := fun vs H Q E => ∃ (L : Lay) (x y : V) (d b : PyData), vs = [.ref L.p, x, y] ∧ WoodAt K H L ∧ Wf L.rows ∧ L.ents.length < 64 ∧ Dp K H x d ∧ Dp K H y b ∧ Short b ∧
  (∀ m M, strikeM L.wd d b = .ok (m, M) → ∀ H' L', WoodAt K H' L' → L'.wd = M → Step H L H' L' → Q (.int m) H') ∧ (∀ e, strikeM L.wd d b = .error e → ∀ H', Same H H' → Bad K E e H')
theorem ownM_int {M : Wd} {d b : PyData} {n : Int} {r : Row} (h : ownM M d b = .ok (n, r)) : d = .int n ∧ findR M.rows n = some r := by
  unfold ownM at h
  cases q : sayingM M d with
  | none => rw [q] at h; cases h
  | some p =>
    obtain ⟨m, r'⟩ := p
    rw [q] at h
    have h : (if nameOk b = false then .error .name else if isS b r'.who = true ∧ r'.struck = false then .ok (m, r') else .error .yours) = (.ok (n, r) : Except Er (Int × Row)) := h
    have e : (m, r') = (n, r) := by
      split at h
      · cases h
      · split at h
        · exact Except.ok.inj h
        · cases h
    cases e
    unfold sayingM at q
    cases d with
    | int k =>
      have q : (if 1 ≤ k ∧ k ≤ M.came then (findR M.rows k).map fun r => (k, r) else none) = some (n, r) := q
      split at q
      · cases f : findR M.rows k with
        | none => rw [f] at q; cases q
        | some z =>
          rw [f] at q
          cases q
          exact ⟨rfl, f⟩
      · cases q
    | _ => cases q
abbrev N_Wood_strike : List Str := ["self", "number", "by", "one", "many", "above"]
theorem sc_Wood_strike : FnScope N_Wood_strike ["self", "number", "by"] (defScope s_Wood_strike) := ⟨rfl, rfl, rfl, by decide +kernel, rfl, by decide +kernel, by decide +kernel⟩
theorem be_Wood_strike : BindEq "strike" "Wood.strike" s_Wood_strike ["self", "number", "by"] := fun _ _ _ _ _ _ us hl => match us, hl with | [_, _, _], _ => rfl
theorem D_Wood_strike (T : Txt K mg base) : Def P w K mg base 4 (He.ma K (He.ga K "Wood") "strike") ["self", "number", "by"] (spStrike K) := by
  refine mk_def T.f_Wood_strike sc_Wood_strike be_Wood_strike (fun vs H Q E h => ?_) (fun cdv A outer s H vs Q E hr h => ?_)
  · obtain ⟨L, x, y, d, b, rfl, _⟩ := h
    rfl
  · obtain ⟨L, x, y, d, b, rfl, W, F, hl, hx, hy, sb, k1, k0⟩ := h
    refine ⟨_, (pss_cons (ps_set (i := 3) sc_Wood_strike.nd rfl (Or.inl rfl) (pe_md (pv 0) T.c_Wood.c T.m_Wood_own (D_Wood_own T) (by exact hr.mono (by first | decide | omega)) passE (pa_cons (pv 1) (pa_cons (pv 2) pa_nil))))
      (pss_cons (ps_fld (pv 3) pe_bl (by rfl))
      (pss_cons (ps_set (i := 4) sc_Wood_strike.nd rfl (Or.inl rfl) pe_int)
      (pss_cons (ps_while ownE (PW.pt (pw_and (pt_cmpR op_ne (pv 1) pe_int (nomark _)) (pw_and (pt_val (pe_fld (pe_dg (pe_fld (pv 0) (by rfl)) (pv 1) (by exact hu_of hr)) (by rfl))) (pw_and1 (pt_eqd (pe_md (pv 0) T.c_Wood.c T.m_Wood_replies (D_Wood_replies T) (by exact hr.mono (by first | decide | omega)) passE (pa_cons (pv 1) pa_nil)) (pe_lst pa_nil) (by exact hr.units)))))) (pss_cons (ps_set (i := 5) sc_Wood_strike.nd rfl (Or.inl rfl) (pe_fld (pe_dp1 (pe_fld (pv 0) (by rfl)) (pv 1)) (by rfl)))
      (pss_cons (ps_set (i := 1) sc_Wood_strike.nd rfl (Or.inl rfl) (pv 5))
      (pss_one (ps_set (i := 4) sc_Wood_strike.nd rfl (Or.inl rfl) (pe_op op_add (pv 4) pe_int))))))
      (pss_one (ps_ret (pv 4))))))), ?_⟩
    walk_at "rd"
    refine ⟨_, _, W.top, fw_no _ _ _ (by decide) (by decide) (by decide), L, x, y, d, b, rfl, W, hx, hy, sb, fun r hr H1 s1 => k0 r ?_ H1 s1, fun n r hr e he er H1 s1 => ?_⟩
    · unfold strikeM
      rw [hr]
    · obtain ⟨ed, fr⟩ := ownM_int hr
      subst ed
      cases hx
      have W1 := W.same s1
      have hm := (findE_mem he).1
      have en := (findE_mem he).2
      have S := W1.say e hm
      have nva : e.v ≠ e.a := ne_of S.d S.o (by intro q; cases q)
      refine ⟨_, rfl, _, _, _, S.o, T.c_Saying.c, T.n_Saying_is_struck, by rw [fs_len]; decide, ?_⟩
      rw [fp_struck]
      have kp : ∀ b o, b ≠ e.a → b ≠ e.v → H1 b = some o → upd H1 e.a (.ins (cS K) e.x (sayFs { e.row with struck := true } e.v)) b = some o := fun b o h1 _ q => by rw [upd_ne h1]; exact q
      have W2 := W1.set hm (r := { e.row with struck := true }) ⟨upd_same, by rw [upd_ne nva]; exact S.d, S.nd, S.sz⟩ kp
      have st2 := (Step.same s1).trans (Step.set (r := { e.row with struck := true }) hm kp)
      generalize upd H1 e.a (.ins (cS K) e.x (sayFs { e.row with struck := true } e.v)) = H2 at W2 st2 ⊢
      have er2 : ({ L with ents := setE L.ents e.n { e.row with struck := true } } : Lay).rows = setR L.rows n { r with struck := true } := by
        rw [en, er]
        exact setE_rows _ _ _
      have ec2 : ({ L with ents := setE L.ents e.n { e.row with struck := true } } : Lay).came = L.came := rfl
      have ek2 : ({ L with ents := setE L.ents e.n { e.row with struck := true } } : Lay).clock = L.clock := rfl
      have ep2 : ({ L with ents := setE L.ents e.n { e.row with struck := true } } : Lay).p = L.p := rfl
      have hl2 : ({ L with ents := setE L.ents e.n { e.row with struck := true } } : Lay).ents.length < 64 := by
        show (setE L.ents e.n _).length < 64
        unfold setE
        rw [List.length_map]
        exact hl
      generalize ({ L with ents := setE L.ents e.n { e.row with struck := true } } : Lay) = L2 at W2 st2 er2 ec2 ek2 ep2 hl2
      have es : strikeM L.wd (.int n) b = .ok ((goneR L2.rows n).2, ⟨(goneR L2.rows n).1, L.came, L.clock⟩) := by
        unfold strikeM
        rw [hr, er2]
        rfl
      have F2 : Wf L2.rows := by rw [er2]; exact F.set fr rfl
      have hn2 : n = 0 ∨ ∃ r, findR L2.rows n = some r := .inr ⟨_, by rw [er2]; exact findR_set F.nk fr⟩
      refine ⟨fun m σ H' => ∃ (L' : Lay) (i c : Int) (ab : Option V), σ = [some (.ref L.p), some (.int i), some y, some (.ref e.a), some (.int c), ab] ∧ m = i.toNat ∧ WoodAt K H' L' ∧ Step H L H' L' ∧ Wf L'.rows ∧ L'.ents.length < 64 ∧ L'.came = L.came ∧ L'.clock = L.clock ∧ (i = 0 ∨ ∃ r, findR L'.rows i = some r) ∧ (goneR L2.rows n).1 = (goneR L'.rows i).1 ∧ (goneR L2.rows n).2 = (goneR L'.rows i).2 + c,
        ⟨_, L2, n, 0, none, rfl, rfl, W2, st2, F2, hl2, ec2, ek2, hn2, rfl, by omega⟩, ?_⟩
      rintro m σ H' ⟨L', i, c, ab, rfl, rfl, W', st', F', hl', ec', ek', hi', eg1, eg2⟩
      have pp : L'.p = L.p := st'.p
      have out : goneR L'.rows i = (L'.rows, 0) → Q (.int c) H' := fun g => by
        refine k1 c ⟨L'.rows, L.came, L.clock⟩ ?_ H' L' W' ?_ st'
        · rw [es, eg1, eg2, g]
          simp
        · unfold Lay.wd
          rw [ec', ek']
      walk_at "rd"
      refine ⟨rfl, ?_⟩
      by_cases i0 : i = 0
      · rw [decide_eq_true i0]
        refine iteF (out ?_)
        rw [i0, goneR, F'.find0]
      · rw [decide_eq_false i0]
        obtain ⟨ri, hri⟩ := hi'.resolve_left i0
        obtain ⟨e', he', eri⟩ : ∃ e', findE L'.ents i = some e' ∧ e'.row = ri := by
          rw [L'.find] at hri
          cases q : findE L'.ents i with
          | none => rw [q] at hri; cases hri
          | some e' => rw [q] at hri; exact ⟨e', rfl, Option.some.inj hri⟩
        have S' := W'.say e' (findE_mem he').1
        rw [← pp]
        refine iteT (W'.fsay T (W'.at he' ⟨_, rfl, S'.fstruck T ⟨_, rfl, ?_⟩⟩))
        cases cs : e'.row.struck with
        | false =>
          refine iteF (out ?_)
          rw [goneR, hri]
          show (if h : _ then _ else _) = _
          rw [dif_neg (by rw [← eri, cs]; simp)]
        | true =>
          refine iteT ⟨_, _, W'.top, fw_no _ _ _ (by decide) (by decide) (by decide), L', i, rfl, W', hl', fun q H3 hq s3 e3 => ⟨Nat.zero_le _, fun l hl0 => ?_⟩⟩
          have s4 := s3.trans (Same.new (o := .lst []) hl0)
          refine use_eqD (dp_ints ((Same.new hl0) _ _ e3)) (dp_ints (ns := []) upd_same) (shaped_ints _) (shaped_ints []) ⟨_, rfl, ?_⟩
          rw [eqv_ints]
          generalize upd H3 l (.lst []) = H4 at s4 ⊢
          have W4 := W'.same s4
          have S4 := W4.say e' (findE_mem he').1
          obtain ⟨up1, up2, up3, up4⟩ := F'.up hri
          by_cases er0 : sortI (repliesR L'.rows i) = []
          · have re : repliesR L'.rows i = [] := by
              have := sortI_perm (repliesR L'.rows i)
              rw [er0] at this
              exact this.nil_eq.symm
            rw [decide_eq_true er0]
            have g : goneR L'.rows i = ((goneR (dropR L'.rows i) ri.under).1, (goneR (dropR L'.rows i) ri.under).2 + 1) := by
              rw [goneR, hri]
              show (if h : _ then _ else _) = _
              rw [dif_pos ⟨up2, up3, up4, by rw [← eri]; exact cs, re⟩]
            refine iteT ⟨_, fun _ _ h => h, W4.fsay T ⟨_, rfl, .inl ⟨_, .inl W4.dic⟩, _, W4.dic, Sum.inl i, rfl, _, by rw [valE, he']; rfl, _, rfl, ?_⟩⟩
            refine fld (by rw [upd_ne (ne_of S4.o W4.dic (by intro q; cases q))]; exact S4.o) T.c_Saying.c T.n_Saying_under (fs_under _ _) ?_
            have st5 := (st'.trans (Step.same s4)).trans (Step.pop (L := L') i (.dK (dropK (L'.ents.map entK) (Sum.inl i))))
            refine ⟨ri.under.toNat, by omega, { L' with ents := L'.ents.filter fun e => decide (e.n ≠ i) }, ri.under, c + 1, some (.int ri.under), ?_, rfl, W4.pop i, st5, ?_, ?_, ec', ek', ?_, ?_, ?_⟩
            · rw [eri]
            · rw [pop_rows]
              exact F'.drop re
            · exact Nat.lt_of_le_of_lt (List.length_filter_le _ _) hl'
            · rw [pop_rows]
              rcases F'.has _ (findR_mem hri) with z | ⟨z, hz⟩
              · exact .inl z
              · right
                have hz : findR L'.rows ri.under = some z := hz
                rw [findR_drop, if_neg (by omega)]
                exact ⟨z, hz⟩
            · rw [eg1, g, pop_rows]
            · rw [eg2, g, pop_rows]
              show (goneR (dropR L'.rows i) ri.under).2 + 1 + c = _
              omega
          · rw [decide_eq_false er0]
            refine iteF ?_
            have g : goneR L'.rows i = (L'.rows, 0) := by
              rw [goneR, hri]
              show (if h : _ then _ else _) = _
              rw [dif_neg fun h => er0 (by rw [h.2.2.2.2]; exact sortI_self List.Pairwise.nil)]
            refine k1 c ⟨L'.rows, L.came, L.clock⟩ ?_ H4 L' W4 ?_ (st'.trans (Step.same s4))
            · rw [es, eg1, eg2, g]
              simp
            · unfold Lay.wd
              rw [ec', ek']
end
end Vw
namespace Vw
open PySem PySem.Spec PyProof.Rows L2
local macro_rules | `(tactic| walk_at "rd") => `(tactic| simp only [tSeq, tNext, tIfS, tAsg, tRet, tRetN, tDrop, tVar, tC, tOp, tUn, tTest, tB, tAnd, tOr, tNot, tAndV, tOrV, tNotV, tIf, tChain, tCB, tCons, tNil, tCall, tMeth, tMake, tFld, sFld, tTup, tLst, tCmp, t2I, tIsN, tNotN, tPar, gName, gNil, gCons, gTup, gSub, rI0, rU, rEq, rNe, tDGet, tDIn, tDNotIn, sDPut, tDNewK, tDGet1, tDGet2, tDPop1, tDPop2, tBM, tBM0, tM0, tM1, tSl, tPart, tNoPart, tBreak, tCont, tThru, L2.start, List.map_cons, List.map_nil, List.length_cons, List.length_nil, List.cons_append, List.nil_append, List.append_nil, List.replicate_succ, List.replicate_zero, Nat.reduceAdd, Nat.reduceSub, Nat.zero_add, List.getElem?_cons_zero, List.getElem?_cons_succ, List.set_cons_zero, List.set_cons_succ, wipe, cxOf_K, tYes, List.cons.injEq, and_self, Option.some.injEq, V.int.injEq, V.bl.injEq, V.ref.injEq, V.str.injEq, exists_eq_left', exists_eq_left, exists_and_left, and_assoc, true_and, and_true, if_true, if_false, ite_true, ite_false, Bool.not_true, Bool.not_false, Bool.false_eq_true, reduceIte])
theorem WoodAt.put {K : PySem.W.Frag} {H H' : Hp} {L : Lay} (W : WoodAt K H L) {n : Int} {a x v : Addr} {r : Row} (S : SayAt K H' a x v r) (ha : H a = none) (hv : H v = none) (hn : ∀ e ∈ L.ents, e.n ≠ n) (kp : ∀ b o, b ≠ L.d → H b = some o → H' b = some o)
    (hd : H' L.d = some (.dK (L.ents.map entK ++ [entK ⟨n, r, a, x, v⟩]))) (sz : L.ents.length + 1 < 100000) : WoodAt K H' { L with ents := L.ents ++ [⟨n, r, a, x, v⟩] } := by
  have npd : L.p ≠ L.d := ne_of W.top W.dic (by intro q; cases q)
  refine ⟨kp _ _ npd W.top, ?_, fun e he => ?_, ?_, ?_, ?_, fun e he => ?_, fun e he => ?_, ?_⟩
  · show H' L.d = some (.dK ((L.ents ++ [_]).map entK))
    rw [List.map_append]
    exact hd
  · rcases List.mem_append.mp he with he | he
    · have S0 := W.say e he
      exact ⟨kp _ _ (ne_of S0.o W.dic (by intro q; cases q)) S0.o, kp _ _ (W.dv e he) S0.d, S0.nd, S0.sz⟩
    · cases List.mem_singleton.mp he
      exact S
  · show ((L.ents ++ [(⟨n, r, a, x, v⟩ : Ent)]).map (·.n)).Nodup
    rw [List.map_append]
    refine nd_snoc W.nk fun m => ?_
    obtain ⟨e, he, q⟩ := List.mem_map.mp m
    exact hn e he q
  · show ((L.ents ++ [(⟨n, r, a, x, v⟩ : Ent)]).map (·.a)).Nodup
    rw [List.map_append]
    refine nd_snoc W.nda fun m => ?_
    obtain ⟨e, he, q⟩ := List.mem_map.mp m
    exact ne_of_none (W.say e he).o ha q
  · show ((L.ents ++ [(⟨n, r, a, x, v⟩ : Ent)]).map (·.v)).Nodup
    rw [List.map_append]
    refine nd_snoc W.ndv fun m => ?_
    obtain ⟨e, he, q⟩ := List.mem_map.mp m
    exact ne_of_none (W.say e he).d hv q
  · rcases List.mem_append.mp he with he | he
    · exact W.dv e he
    · cases List.mem_singleton.mp he
      exact (ne_of_none W.dic hv).symm
  · rcases List.mem_append.mp he with he | he
    · exact W.pa e he
    · cases List.mem_singleton.mp he
      exact (ne_of_none W.top ha).symm
  · show (L.ents ++ [_]).length < 100000
    rw [List.length_append]
    exact sz
theorem Step.put {H H' : Hp} {L : Lay} {n : Int} {a x v : Addr} {r : Row} (ha : H a = none) (hv : H v = none) (kp : ∀ b o, b ≠ L.d → H b = some o → H' b = some o) : Step H L H' { L with ents := L.ents ++ [⟨n, r, a, x, v⟩] } := by
  refine ⟨rfl, fun b o hb e => kp b o (fun z => hb (by rw [z]; exact List.mem_cons_of_mem _ List.mem_cons_self)) e, fun b hb => ?_⟩
  have hb : b ∈ L.p :: L.d :: ((L.ents ++ [(⟨n, r, a, x, v⟩ : Ent)]).map (·.a) ++ (L.ents ++ [(⟨n, r, a, x, v⟩ : Ent)]).map (·.v)) := hb
  simp only [List.mem_cons, List.mem_append, List.map_append, List.map_cons, List.map_nil, List.not_mem_nil, or_false] at hb
  rcases hb with rfl | rfl | (h | rfl) | (h | rfl)
  · exact .inl List.mem_cons_self
  · exact .inl (List.mem_cons_of_mem _ List.mem_cons_self)
  · exact .inl (List.mem_cons_of_mem _ (List.mem_cons_of_mem _ (List.mem_append_left _ h)))
  · exact .inr ha
  · exact .inl (List.mem_cons_of_mem _ (List.mem_cons_of_mem _ (List.mem_append_right _ h)))
  · exact .inr hv
theorem Step.top {H : Hp} {L : Lay} {c k : Int} {o : HO} : Step H L (upd H L.p o) { L with came := c, clock := k } :=
  ⟨rfl, fun b u hb e => by rw [upd_ne (fun z => hb (by rw [z]; exact List.mem_cons_self))]; exact e, fun b hb => .inl hb⟩
section
variable {P : Program} {w : World} {K : PySem.W.Frag} {mg : Str → Option Value} {base : Heap}
def spSay (K : PySem.W.Frag) : Sp := fun vs H Q E => ∃ (L : Lay) (x y z : V) (b u t : PyData), vs = [.ref L.p, x, y, z] ∧ WoodAt K H L ∧ Wf L.rows ∧ (∀ p ∈ L.rows, p.1 ≤ L.came) ∧ Dp K H x b ∧ Dp K H y u ∧ Dp K H z t ∧ Short b ∧ SeqAt.shaped u = true ∧ Short t ∧
  (∀ n M, sayM L.wd b u t = .ok (n, M) → ∀ H' L', WoodAt K H' L' → L'.wd = M → Step H L H' L' → Q (.int n) H') ∧ (∀ e, sayM L.wd b u t = .error e → ∀ H', Same H H' → Bad K E e H')
abbrev N_Wood_say : List Str := ["self", "by", "under", "text"]
theorem sc_Wood_say : FnScope N_Wood_say ["self", "by", "under", "text"] (defScope s_Wood_say) := ⟨rfl, rfl, rfl, by decide +kernel, rfl, by decide +kernel, by decide +kernel⟩
theorem be_Wood_say : BindEq "say" "Wood.say" s_Wood_say ["self", "by", "under", "text"] := fun _ _ _ _ _ _ us hl => match us, hl with | [_, _, _, _], _ => rfl
theorem D_Wood_say (T : Txt K mg base) : Def P w K mg base 3 (He.ma K (He.ga K "Wood") "say") ["self", "by", "under", "text"] (spSay K) := by
  refine mk_def T.f_Wood_say sc_Wood_say be_Wood_say (fun vs H Q E h => ?_) (fun cdv A outer s H vs Q E hr h => ?_)
  · obtain ⟨L, x, y, z, b, u, t, rfl, _⟩ := h
    rfl
  · obtain ⟨L, x, y, z, b, u, t, rfl, W, F, hle, hx, hy, hz, sb, su, st, k1, k0⟩ := h
    refine ⟨_, (pss_cons (ps_expr (pe_cd (D_need_name T) (by exact hr.mono (by first | decide | omega)) T.g_need_name passE (pa_cons (pv 1) pa_nil)))
      (C8.pss_cut (ps_if (PW.pt (pw_or (pt_ned (pv 2) pe_int (by exact hr.units)) (pw_or1 (pt_val (pe_callB call_isi (by rfl) T.b_isinstance (by decide +kernel) (pa_cons (pv 2) (pa_cons (pe_bltn (v := .ty "bool") (by rfl) T.b_bool (by decide +kernel) rfl) pa_nil))))))) (pss_one (ps_expr (pe_md (pv 0) T.c_Wood.c T.m_Wood_saying (D_Wood_saying T) (by exact hr.mono (by first | decide | omega)) passE (pa_cons (pv 2) pa_nil)))) pss_nil)
      (pss_cons (ps_expr (pe_cd (D_need_text T) (by exact hr.mono (by first | decide | omega)) T.g_need_text passE (pa_cons (pv 3) pa_nil)))
      (C8.pss_cut (ps_if (PW.pt (pw_or (pt_cmpR op_ge (pe_callB call_lenD (by rfl) T.b_len (by decide +kernel) (pa_cons (pe_fld (pv 0) (by rfl)) pa_nil)) (pe_gk T.k_MOST_SAYINGS) (nomark _)) (pw_or1 (PW.pt (pw_and (pt_ned (pv 2) pe_int (by exact hr.units)) (pw_and1 (pt_cmpR op_ge (pe_op op_add (pe_md (pv 0) T.c_Wood.c T.m_Wood_deep (D_Wood_deep T) (by exact hr.mono (by first | decide | omega)) passE (pa_cons (pv 2) pa_nil)) pe_int) (pe_gk T.k_MOST_DEEP) (nomark _)))))))) (pss_one (ps_rs T.x_Full)) pss_nil)
      (pss_cons (ps_fld (pv 0) (pe_op op_add (pe_fld (pv 0) (by rfl)) pe_int) (by rfl))
      (pss_cons (ps_dp (pe_fld (pv 0) (by rfl)) (pe_fld (pv 0) (by rfl)) (pe_mk T.c_Saying.m (D_Saying___init__ T) (by exact hr.mono (by first | decide | omega)) T.c_Saying.g passE (pa_cons (pv 1) (pa_cons (pv 2) (pa_cons (pv 3) (pa_cons (pe_fld (pv 0) (by rfl)) pa_nil))))) (by exact hu_of hr))
      (pss_one (ps_ret (pe_fld (pv 0) (by rfl)))))))))), ?_⟩
    walk_at "rd"
    refine ⟨x, b, rfl, hx, sb, fun hb H1 s1 => ?_, fun hb H1 s1 => k0 .name ?_ H1 s1⟩
    · have hb0 : ¬ nameOk b = false := by rw [hb]; decide
      have W1 := W.same s1
      have hy1 := dp_same s1 hy
      have k0u : underOk L.wd u = false → Bad K E .no H1 := fun hu => k0 .no (by unfold sayM; rw [if_neg hb0, if_pos hu]) H1 s1
      refine ⟨fun σ' H' => H' = H1 ∧ σ' = [some (.ref L.p), some x, some y, some z] ∧ underOk L.wd u = true, ?_, ?_⟩
      · walk_at "rd"
        have say : ∀ {Q' : VK}, (underOk L.wd u = true → Q' .non H1) → isZero u = false → (∃ dx fs, H1 L.p = some (.ins (He.ga K "Wood") dx fs) ∧ fs.lookup (Str.ofString "saying") = none ∧ spSaying K [.ref L.p, y] H1 (fun _ H1 => Q' .non H1) E) := fun {Q'} q z => by
          refine ⟨_, _, W1.top, fw_no _ _ _ (by decide) (by decide) (by decide), L, y, u, rfl, W1, hy1, fun e he => q ?_, fun h => k0u ?_⟩
          · exact (underOk_iff L z).mpr ⟨e, he⟩
          · cases c : underOk L.wd u with
            | false => rfl
            | true =>
              obtain ⟨e, he⟩ := (underOk_iff L z).mp c
              rw [he] at h
              cases h
        refine use_neD hy1 (.int 0) su rfl ⟨_, rfl, ?_⟩
        cases e0 : PyData.eqv u (.int 0) with
        | false =>
          refine iteT (say (Q' := fun _ H' => H' = H1 ∧ underOk L.wd u = true) (fun h => ⟨rfl, h⟩) ?_)
          cases u with
          | int n =>
            have : ¬ n = 0 := by rw [eqv_int] at e0; exact of_decide_eq_false e0
            simp [isZero, this]
          | _ => rfl
        | true =>
          refine iteF (use_isi hy1 (kit_bool _) ⟨_, rfl, ?_⟩)
          cases hy1 with
          | bl b => exact iteT (say (Q' := fun _ H' => H' = H1 ∧ underOk L.wd (.bool b) = true) (fun h => ⟨rfl, h⟩) rfl)
          | int n =>
            have : n = 0 := by rw [eqv_int] at e0; exact of_decide_eq_true e0
            subst this
            exact iteF ⟨rfl, rfl⟩
          | _ => cases e0
      · rintro σ' H' ⟨rfl, rfl, hu⟩
        have hu0 : ¬ underOk L.wd u = false := by rw [hu]; decide
        obtain ⟨n, rfl⟩ : ∃ n, u = .int n := by
          cases u with
          | int n => exact ⟨n, rfl⟩
          | _ => cases hu
        cases hy
        obtain ⟨who, rfl⟩ : ∃ who, b = .str who := by
          cases b with
          | str n => exact ⟨n, rfl⟩
          | _ => cases hb
        cases hx
        walk_at "rd"
        refine ⟨z, t, rfl, dp_same s1 hz, st, fun ht H2 s2 => ?_, fun ht H2 s2 => k0 .text ?_ H2 (s1.trans s2)⟩
        · have ht0 : ¬ textOk t = false := by rw [ht]; decide
          obtain ⟨text, rfl⟩ : ∃ text, t = .str text := by
            cases t with
            | str n => exact ⟨n, rfl⟩
            | _ => cases ht
          cases hz
          have W2 := W1.same s2
          have s12 := s1.trans s2
          have ems : sayM L.wd (.str who) (.int n) (.str text) = if 60 ≤ L.rows.length ∨ (n ≠ 0 ∧ 8 ≤ deepI L.rows n + 1) then .error .full else .ok (L.came + 1, ⟨L.rows ++ [(L.came + 1, ⟨who, n, text, L.clock, [], false⟩)], L.came + 1, L.clock⟩) := by
            unfold sayM
            rw [if_neg hb0, if_neg hu0, if_neg ht0]
            rfl
          have lr : L.rows.length = L.ents.length := by unfold Lay.rows; rw [List.length_map]
          refine ⟨fun σ' H' => H' = H2 ∧ σ' = [some (.ref L.p), some (.str who), some (.int n), some (.str text)] ∧ ¬ (60 ≤ L.rows.length ∨ (n ≠ 0 ∧ 8 ≤ deepI L.rows n + 1)), ?_, ?_⟩
          · walk_at "rd"
            have bad : (60 ≤ L.rows.length ∨ (n ≠ 0 ∧ 8 ≤ deepI L.rows n + 1)) → Bad K E .full H2 := fun c => k0 .full (by rw [ems, if_pos c]) H2 s12
            refine W2.fsay T ⟨_, rfl, _, W2.dic, ?_⟩
            rw [List.length_map]
            by_cases c1 : (60 : Int) ≤ L.ents.length
            · rw [decide_eq_true c1]
              exact iteT (bad (.inl (by omega)))
            · rw [decide_eq_false c1]
              refine iteF (use_neD (.int n) (.int 0) rfl rfl ⟨_, rfl, ?_⟩)
              rw [eqv_int]
              by_cases n0 : n = 0
              · rw [decide_eq_true n0]
                exact iteF ⟨rfl, fun h => h.elim (fun h => by omega) (fun h => h.1 n0)⟩
              · rw [decide_eq_false n0]
                have hh : Here L n := by
                  right
                  simp only [underOk, Bool.or_eq_true, Bool.and_eq_true, decide_eq_true_eq, n0, false_or] at hu
                  have := hu.2
                  have this : (findR L.rows n).isSome = true := this
                  rw [L.find] at this
                  cases q : findE L.ents n with
                  | none => rw [q] at this; cases this
                  | some e => exact ⟨e, rfl⟩
                refine iteT ⟨_, _, W2.top, fw_no _ _ _ (by decide) (by decide) (by decide), L, n, rfl, W2, F, hh, _, rfl, ?_⟩
                by_cases c2 : (8 : Int) ≤ (deepI L.rows n : Nat) + 1
                · rw [decide_eq_true c2]
                  exact iteT (bad (.inr ⟨n0, by omega⟩))
                · rw [decide_eq_false c2]
                  exact iteF ⟨rfl, fun h => h.elim (fun h => by omega) (fun h => by omega)⟩
          · rintro σ' H3 ⟨rfl, rfl, nf⟩
            rw [if_neg nf] at ems
            walk_at "rd"
            refine W2.fcame T ⟨_, rfl, _, _, _, W2.top, T.c_Wood.c, T.n_Wood_came, by rw [fw_len]; decide, ?_⟩
            rw [fpw_came]
            have W3 := W2.setTop (L.came + 1) L.clock
            have st3 := (Step.same s12).trans (Step.top (H := H3) (L := L) (c := L.came + 1) (k := L.clock) (o := .ins (cW K) L.dx (woodFs L.d (L.came + 1) L.clock)))
            generalize upd H3 L.p (.ins (cW K) L.dx (woodFs L.d (L.came + 1) L.clock)) = H4 at W3 st3 ⊢
            have ents3 : ({ L with came := L.came + 1, clock := L.clock } : Lay).ents = L.ents := rfl
            refine fld W3.top T.c_Wood.c T.n_Wood_clock (fw_clock _ _ _) fun a dx ha hdx nax => ?_
            refine ⟨a, dx, who, text, n, L.clock, rfl, upd_same, fun v H5 hv S5 k5 => ⟨rfl, ?_⟩⟩
            have sa : Same H4 (upd (upd H4 dx (.own a)) a (.ins (cS K) dx [])) := (Same.new hdx).trans (Same.new (by rw [upd_ne nax.symm]; exact ha))
            have k45 : ∀ b o, b ≠ L.d → H4 b = some o → H5 b = some o := fun b o _ e => k5 b o (ne_of_none e ha) (sa b o e)
            have s45 : Same H4 H5 := fun b o e => k5 b o (ne_of_none e ha) (sa b o e)
            have hv4 : H4 v = none := sa.free hv
            have W5 := W3.same s45
            refine fld W5.top T.c_Wood.c T.n_Wood_sayings (fw_sayings _ _ _) ?_
            refine fld W5.top T.c_Wood.c T.n_Wood_came (fw_came _ _ _) ?_
            have hnew : ∀ e ∈ L.ents, e.n ≠ L.came + 1 := fun e he z => by
              have := hle (e.n, e.row) (List.mem_map.mpr ⟨e, he, rfl⟩)
              have this : e.n ≤ L.came := this
              omega
            have vn : valV (L.ents.map entK) (Sum.inl (L.came + 1)) = none := by
              rw [valE]
              have : findE L.ents (L.came + 1) = none := by
                unfold findE
                rw [List.find?_eq_none]
                intro e he
                simpa using hnew e he
              rw [this]
              rfl
            have sz := W.sz
            refine ⟨_, rfl, _, DPut.k (k := Sum.inl (L.came + 1)) W5.dic (by rw [List.length_map, sizeLine_eq]; show L.ents.length < _; omega), ?_⟩
            have ed : putK (L.ents.map entK) (Sum.inl (L.came + 1)) (.ref a) = L.ents.map entK ++ [entK ⟨L.came + 1, ⟨who, n, text, L.clock, [], false⟩, a, dx, v⟩] := putK_new _ vn
            have kp6 : ∀ b o, b ≠ L.d → H4 b = some o → upd H5 L.d (.dK (putK (L.ents.map entK) (Sum.inl (L.came + 1)) (.ref a))) b = some o := fun b o hb e => by
              rw [upd_ne hb]
              exact s45 b o e
            have S6 : SayAt K (upd H5 L.d (.dK (putK (L.ents.map entK) (Sum.inl (L.came + 1)) (.ref a)))) a dx v ⟨who, n, text, L.clock, [], false⟩ :=
              ⟨by rw [upd_ne (ne_of_none W3.dic ha).symm]; exact S5.o, by rw [upd_ne (ne_of_none W3.dic hv4).symm]; exact S5.d, S5.nd, S5.sz⟩
            have W6 := W3.put S6 ha hv4 hnew kp6 (by show upd H5 L.d _ L.d = _; rw [upd_same, ed]) (by show L.ents.length + 1 < 100000; simp only [not_or] at nf; omega)
            refine fld W6.top T.c_Wood.c T.n_Wood_came (fw_came _ _ _) ?_
            refine k1 _ _ ems _ _ W6 ?_ (st3.trans (Step.put ha hv4 kp6))
            unfold Lay.wd Lay.rows
            simp
        · unfold sayM
          rw [if_neg hb0, if_neg hu0, if_pos ht]
    · unfold sayM
      rw [if_pos hb]
end
end Vw
namespace Vw
open PySem PySem.Spec PyProof.Rows L2 HotX
/-! ### lists walked while an exception is handled -/
section
variable {prog : Program} {w : World} {A : Around} {E : Value → Shared → Prop} {s : Shared}
theorem list_end_hot {it l x1 : Addr} {i : Nat} {items : Array Value} {Q : Option Value → Shared → Prop} (hot : HotAt A x1 s.heap) (hne : x1 ≠ it) (hit : s.heap.IsListIter it l i) (hl : s.heap.IsList l items) (hx : items[i]? = none)
    (hQ : ∀ h', (∀ b o, b ≠ it → s.heap.get? b = some o → h'.get? b = some o) → Q none { s with heap := h' }) : wpAny (model prog w) A (pyNext (.ref it)) Q E s := by
  have ty := hit.typeIs
  obtain ⟨oi, gi, ci, di⟩ := hit
  obtain ⟨ol, gl, cl, n, dl⟩ := hl
  obtain ⟨hh, o1, v1, g1, d1, c1⟩ := hot
  unfold pyNext
  refine wpAny_bind (wpAny_attempt (wpAny_callSpecial?_slot (name := Str.ofString "__next__") ty slot_listiter_next (wpAny_call_entry slot_listiter_next ty entry_listiter_next ?_ (args_listiter_next _))))
  show wpAny (model prog w) _ (field (Value.ref it) 0 >>= _) _ _ _
  refine wpAny_bind (wpAny_field gi di (x := Value.ref l) rfl ?_)
  have nn : ¬ ((Value.ref l == Value.none) = true) := by
    intro z
    exact Bool.noConfusion z
  show wpAny (model prog w) _ (ite ((Value.ref l == Value.none) = true) _ _) _ _ _
  rw [if_neg nn]
  show wpAny (model prog w) _ (field (Value.ref it) 1 >>= _) _ _ _
  refine wpAny_bind (wpAny_field gi di (x := Value.int i 0) rfl ?_)
  show wpAny (model prog w) _ (seqItems? (Value.ref l) >>= _) _ _ _
  refine wpAny_bind (wpAny_seqItems gl dl ?_)
  simp only [hx, Int.toNat_natCast]
  refine wpAny_bind (wpAny_rule (wpAny_bind (wpAny_setField gi di (by simp) ?_)))
  show wpAny (model prog w) _ (newExc (Value.type "StopIteration") [] >>= _) _ _ _
  refine wpAny_bind ?_
  simp only [newTuple, newExc]
  refine wpAny_bind (wpAny_newObj_type (hd := by size_fits) ?_)
  refine wpAny_bind (m := firstArgMember _ _) (wpAny_of_eq (a := Value.none) (by first | rfl | (simp only [firstArgMember]; rfl)) (wpAny_newObj_type (hd := by size_fits) ?_))
  have g1' : (s.heap.update it (Obj.mapFields (·.setIfInBounds 0 Value.none))).get? x1 = some o1 := (Heap.get?_update_other _ _ (Ne.symm hne)).trans g1
  refine raiseNew_hot ⟨hh, o1, v1, Heap.get?_push_of_some _ (Heap.get?_push_of_some _ g1'), d1, c1⟩ (Nat.ne_of_lt (Heap.lt_size (Heap.get?_push_of_some _ g1'))) (Heap.get?_push_size _ rfl) rfl (by first | (simp; done) | (simp; omega)) ?_
  refine wpAny_bind (wpAny_isInstance (T := "StopIteration") (b := true) ⟨_, Heap.get?_update_self _ (Heap.get?_push_size _ rfl) rfl, rfl⟩ isSubtype_stop (wpAny_pure (hQ _ fun b o hb e => ?_)))
  have e' : (s.heap.update it (Obj.mapFields (·.setIfInBounds 0 Value.none))).get? b = some o := (Heap.get?_update_other _ _ (Ne.symm hb)).trans e
  exact (Heap.get?_update_other _ _ (Nat.ne_of_gt (Heap.lt_size (Heap.get?_push_of_some _ e')))).trans (Heap.get?_push_of_some _ (Heap.get?_push_of_some _ e'))
end
/-- the walk over a list, the handled exception at x1 beside it -/
theorem walks_hot {prog : Program} {w : World} {A : Around} {x1 : Addr} {o1 : Obj} {v1 : Array Value} (hh : A.handled = some (.ref x1)) (d1 : o1.data = .fields v1) (c1 : v1[2]? = some .none) (I ax : Addr) (hne : ax ≠ I) (hx : x1 ≠ I) (items : Array Value) :
    Walks prog w A I [I, ax, x1] [I] items.size (fun i v => items[i]? = some v) (fun i h => h.IsListIter I ax i ∧ h.IsList ax items ∧ h.get? x1 = some o1) where
  sub := fun b hb => by
    have e : b = I := by simpa using hb
    simp [e]
  frame := fun i h h' st k => ⟨st.1.at fun o e => k I (by simp) o e, st.2.1.at fun o e => k ax (by simp) o e, k x1 (by simp) o1 st.2.2⟩
  item := fun i s Q E hi st hQ => by
    have hg : items[i]? = some items[i] := by simp [hi]
    refine wpAny_pyNext_list_item st.1 st.2.1 (x := items[i]) hg fun h' it' sb => ?_
    exact hQ _ h' s.toks hg ⟨it', st.2.1.extBut sb.extBut hne, sb.extBut x1 o1 hx st.2.2⟩ fun b o hb e => sb.extBut b o (fun z => hb (by simp [z])) e
  done := fun s Q E st hQ => list_end_hot ⟨hh, o1, v1, st.2.2, d1, c1⟩ hx st.1 st.2.1 (by simp) fun h' k => hQ h' s.toks fun b o hb e => k b o (fun z => hb (by simp [z])) e
  self := fun i s Q E st hQ => wpAny_pyIter_listiter st.1 hQ
/-- its iterator, new -/
theorem iter_hot {prog : Program} {w : World} {A : Around} {E : Value → Shared → Prop} {s : Shared} {l x1 : Addr} {items : Array Value} {o1 : Obj} {Q : Value → Shared → Prop} (hl : s.heap.IsList l items) (g1 : s.heap.get? x1 = some o1)
    (h : ∀ s2 : Shared, s2 = { s with heap := s.heap.push { cls := .type "list_iterator", data := .fields #[.ref l, .int 0 0] } } → (s2.heap.IsListIter s.heap.objs.size l 0 ∧ s2.heap.IsList l items ∧ s2.heap.get? x1 = some o1) →
      (∀ b ∈ [s.heap.objs.size, l, x1], b < s2.heap.objs.size) → l ≠ s.heap.objs.size → x1 ≠ s.heap.objs.size → Q (.ref s.heap.objs.size) s2) : wpAny (model prog w) A (pyIter (.ref l)) Q E s := by
  have l1 : l < s.heap.objs.size := by
    obtain ⟨_, e, _⟩ := id hl
    exact Heap.lt_size e
  have l2 : x1 < s.heap.objs.size := Heap.lt_size g1
  refine wpAny_pyIter_list hl (h _ rfl ⟨⟨_, Heap.get?_push_size _ rfl, rfl, rfl⟩, hl.push _, Heap.get?_push_of_some _ g1⟩ (fun b hb => ?_) (Nat.ne_of_lt l1) (Nat.ne_of_lt l2))
  have e : b = s.heap.objs.size ∨ b = l ∨ b = x1 := by simpa using hb
  show b < (s.heap.push _).objs.size
  rw [Heap.size_push]
  rcases e with e | e | e
  · rw [e]
    exact Nat.lt_succ_self _
  · rw [e]
    exact Nat.lt_succ_of_lt l1
  · rw [e]
    exact Nat.lt_succ_of_lt l2
/-- sum of a list of ints, while an exception is handled -/
theorem sum_hot {prog : Program} {w : World} {A : Around} {E : Value → Shared → Prop} {s : Shared} {a x1 : Addr} {its : List Value} {ns : List Int} {o1 : Obj} {v1 : Array Value} {Q : Value → Shared → Prop} (hh : A.handled = some (.ref x1)) (g1 : s.heap.get? x1 = some o1)
    (d1 : o1.data = .fields v1) (c1 : v1[2]? = some .none) (hl : s.heap.IsList a its.toArray) (hi : IntsAre its ns) (h : ∀ h' tk t', (∀ b o, s.heap.get? b = some o → h'.get? b = some o) → Q (.int ns.sum t') { s with heap := h', toks := tk }) :
    wpAny (model prog w) A (call (.builtin "sum") [.ref a]) Q E s := by
  obtain ⟨xs, e⟩ := hi.allInts.items
  have en := hi.numsOf
  rw [show its = its.toArray.toList from rfl, e, nums_intItems] at en
  rw [e] at hl
  refine call_sum_walkG (iter_hot hl g1 fun s2 e2 st lt n1 n2 => ?_)
  subst e2
  refine ⟨_, _, _, _, _, _, numAt xs, rfl, walks_hot (A := A.in1) hh d1 c1 _ a n1 n2 (intItems xs), st, lt, fun i v => intItems_at, fun h' tk t' k => ?_⟩
  have es : preSum (numAt xs) (intItems xs).size = ns.sum := by
    rw [preSum_eq, List.take_of_length_le (by simp [intItems]), en]
  rw [es]
  exact h h' tk t' fun b o e => k b o (fun z => Nat.lt_irrefl _ (Nat.lt_of_lt_of_eq (Heap.lt_size e) (List.mem_singleton.mp z).symm)) (Heap.get?_push_of_some _ e)
section
variable {X : Cx}
/-- sum([int(x) for x in flags]), while an exception is handled -/
def n01 (b : Bool) : Int := if b = true then 1 else 0
def tSumF (K : PySem.W.Frag) (ta : TE) : TE := fun σ H Q => ta σ H fun v H1 => ∃ (a : Addr) (bs : List Bool), v = .ref a ∧ SqL K H1 a (bs.map .bl) ∧ Q (.int (bs.map n01).sum) H1
theorem paired_flags : ∀ {bs : List Bool} {us ys : List Value}, Vals (bs.map V.bl) us → Paired (fun (u y : Value) => ∃ b t, u = Value.bool b ∧ y = Value.int (n01 b) t) us ys → Vals ((bs.map n01).map V.int) ys
  | [], _, _, .nil, .nil => .nil
  | b :: bs, _, _, .cons r rs, .cons f fs => by
    obtain ⟨c, t, e1, e2⟩ := f
    have r : _ = Value.bool b := r
    rw [e1] at r
    cases r
    exact .cons ⟨t, e2⟩ (paired_flags rs fs)
theorem pe_sumflags {x : Str} {iter : Expr} {ta : TE} {q0 pos0 q px px2 cp pos : Pos} {scope : Scope} (c : L2H.HotC X) (hi : PE X iter ta) (hsum : X.mg "sum" = none) (hm : X.mg "int" = none) (hg : Gl X "sum")
    (hfree : ∀ y ∈ scope.names, y.2 ≠ .free) (hcell : ∀ y ∈ scope.names, y.2 ≠ .cell) (hkind : scope.kind = .function) (hnames : ∀ y ∈ scope.names, y.2 = .local → scope.names.lookup y.1 = some .local) (hx : scope.names.lookup x = some .local)
    (hgl : (relabel scope X.env).names.lookup ("int" : Str) = some NameKind.globalImplicit) (hd : (x == ("__debug__" : Str)) = false := by decide) (hs : ∀ x, foldedSetIterable iter X.env x = pure x := by intro _; rfl) :
    PE X (.Call (.Name "sum" q0) [.ListComp (.Call (.Name "int" q) [.Name x px2] [] cp) [⟨.Name x px, iter, [], 0⟩] scope pos] [] pos0) (tSumF X.K ta) := by
  refine ⟨fun pins s σ H Q I h => ?_⟩
  obtain ⟨p, ⟨hh, v1, d1, c1⟩, hp⟩ := c
  refine wpAny_Call_Name_kw (ld_blt I hg hsum (by decide +kernel : bootBuiltins "sum" = some (.builtin "sum")) (PyProof.Rows.callWith_builtin1 (Calls.spliced_cons ?_) rfl rfl))
  refine wpAny_ListComp_free (fun _ => true) (fun u y => ∃ b t, u = Value.bool b ∧ y = Value.int (n01 b) t) (closure_ok fun y hy e => absurd e (hfree y hy)) hcell hkind hnames hx (thn (hi.run pins s σ H _ I h) fun u s1 h1 => ?_) hs
  obtain ⟨v, H1, I1, r, a, bs, rfl, hq, q1⟩ := h1
  obtain rfl : u = Value.ref a := r
  obtain ⟨its, rv, hl, hz⟩ := I1.list hq
  have g1 := (I1.pin p (List.mem_append_left _ hp)).1
  refine iter_hot hl.isList g1 fun s2 e2 st lt n1 n2 => ?_
  subst e2
  have len := rv.length
  rw [List.length_map] at len hz
  have old : ∀ {h' : Heap}, (∀ b o, b ∉ [s1.heap.objs.size] → (s1.heap.push { cls := .type "list_iterator", data := .fields #[.ref a, .int 0 0] }).get? b = some o → h'.get? b = some o) → ∀ b o, s1.heap.get? b = some o → h'.get? b = some o := fun k b o e =>
    k b o (fun z => Nat.lt_irrefl _ (Nat.lt_of_lt_of_eq (Heap.lt_size e) (List.mem_singleton.mp z).symm)) (Heap.get?_push_of_some _ e)
  refine ⟨_, _, _, _, _, _, rfl, walks_hot hh d1 c1 _ a n1 n2 its.toArray, by simp; omega, st, lt, ⟨fun C i v s3 m3 E' _ _ _ _ _ _ => ?_, fun C i v s3 m3 E' _ hP _ hn hv k _ => ?_⟩, fun D h' tk ys vs hD hL hPl hlen hP hF k => ?_⟩
  · exact wpAny_pure ⟨rfl, s3.heap, s3.toks, rfl, fun _ _ e => e⟩
  · obtain ⟨b, hb⟩ : ∃ b, v = Value.bool b := by
      have hP : its.toArray[i]? = some v := hP
      rw [List.getElem?_toArray] at hP
      obtain ⟨hi, e⟩ := List.getElem?_eq_some_iff.mp hP
      have hi' : i < bs.length := by omega
      obtain ⟨u, eu, ru⟩ := Vals.get rv (i := i) (x := V.bl bs[i]) (by rw [List.getElem?_map, List.getElem?_eq_getElem hi']; rfl)
      rw [hP] at eu
      cases eu
      exact ⟨_, ru⟩
    subst hb
    have ks := old k
    have kb : ∀ b o, X.base.get? b = some o → s3.heap.get? b = some o := fun b o e => ks b o (I1.bk b o e)
    obtain ⟨mb, b1, b2⟩ := I1.mod.blt
    have hkd : (compEnvC scope (cloFrom X.env.cells scope.names []) C X.env).scope.kind = .function := hkind
    refine Call_ (Calls.Name_function_global hkd hgl (Calls.loadGlobal_builtin (mg := X.mg) (mb := mb) (by show s3.heap.Ns X.env.globals _; rw [I1.ok.glob]; exact I1.mod.glob.keeps kb) hm (by show s3.heap.Ns X.env.builtins _; rw [I1.ok.blt]; exact b1.keeps kb)
      ((b2 "int" (by decide)).trans (by decide +kernel : bootBuiltins "int" = some (.type "int"))) (PyProof.Rows.callWith_type1 ?_ rfl rfl)) (by decide))
    refine Calls.spliced_cons (wpAny_Name (wpAny_loadName_local hkd (lookup_relabel_local hx) hn hv (Calls.spliced_nil (call_int_bool ?_))) hd)
    exact ⟨⟨b, s3.toks, rfl, rfl⟩, s3.heap, _, rfl, fun _ _ e => e⟩
  · have ks := old k
    have hF : Paired (fun u y => ∃ b t, u = Value.bool b ∧ y = Value.int (n01 b) t) (vs.filter fun _ => true) ys.toList := hF
    have ev : vs = its := by
      refine List.ext_getElem? fun j => ?_
      by_cases hj : j < vs.length
      · have e := hP j vs[j] (by simp [hj])
        rw [List.getElem?_toArray] at e
        rw [e]
        simp [hj]
      · rw [List.getElem?_eq_none (by omega), List.getElem?_eq_none (by simp at hlen; omega)]
    have e1 : vs.filter (fun _ => true) = vs := by simp
    rw [e1, ev] at hF
    have rel := paired_flags rv hF
    refine Calls.spliced_nil (sum_hot hh (ks _ _ g1) d1 c1 (its := ys.toList) (by simpa using hL) rel.ints fun h2 tk2 t2 k2 => ?_)
    exact ⟨.int _, H1, I1.kept (h' := h2) (t' := tk2) fun b o e => k2 b o (ks b o e), ⟨_, rfl⟩, q1⟩
end
end Vw
namespace Vw
open PySem PySem.Spec PyProof.Rows L2 HotX
/-! ### a def called in an except suite with the handled exception as an argument -/
section
variable {P : Program} {w : World} {K : PySem.W.Frag} {mg : Str → Option Value} {base : Heap}
theorem hot_run {CX : CXT} {x qual : Str} {st : Stmt} {f : Addr} {N ps : List Str} {k : Nat} {fd : FuncData} {A : Around} {outer : List Env} {s : Shared} {H : Hp} {us : List Value} {vs : List V} {Q : VK} {E : XK} {p : Addr × Obj}
    (F : FunD K x qual (defArgs st) (defBody st) (defScope st) [] [] f fd) (S : FnScope N ps (defScope st)) (hb : BindEq x qual st ps) (hr : L2H.RoomH (k + 1) A) (hp : L2H.PinOk outer H s p) (e0 : Env0 P w K mg base A outer s H) (r : Vals vs us) (hl : vs.length = ps.length)
    (body : ∀ cdv : Value, L2H.RoomH k (A.deeper (envOfC qual (defScope st) s.heap.objs.size f cdv)) → ∃ t, PSs (L2H.cxH CX P w K mg base N qual (defScope st) f cdv A outer s H E p) (defBody st) t ∧ t { nx := fun _ H' => Q .non H', rt := Q } (L2.start N vs) H) :
    codeAny (model P w) A (.call (.ref f) ⟨us, []⟩) (CR CX outer P w H s Q E) s := by
  have KX : K.In s.heap := e0.mod.kin.keeps fun b o e => (e0.bs b o e).1
  have BT := F.bindsN hb s us KX (by rw [List.append_nil, ← r.length]; exact hl)
  rw [List.append_nil] at BT
  obtain ⟨oc, od, dV, kV, doc, pm, an, cdv, ct, osl, rfl, lk, hcd, _, _⟩ := F.ex
  obtain ⟨t, ht, hq⟩ := body cdv (hr.deeper _)
  have lim := e0.mod.nolimit.keeps fun b o e => (e0.bs b o e).1
  have kinds : ∀ y ∈ ps.zip us, (defScope st).names.lookup y.1 = some .local ∨ ((defScope st).names.lookup y.1 = some .cell ∧ ((cellsFrom (s.heap.objs.size + 1) (defScope st).names []).lookup y.1).isSome = true) := fun y hy =>
    (S.par y.1 (List.of_mem_zip (a := y.1) (b := y.2) hy).1).elim .inl fun c => .inr ⟨c, PySem.W.cellsFrom_some _ _ _ (.inl c)⟩
  refine codeAny_call_function hr.depth (KX _ _ lk) rfl S.co S.gen rfl (PySem.W.codeRec_of KX hcd) (BT _ _ _ _ (wpAny_newFunctionEnv_cells S.kind kinds fun env he s1 x1 => ?_))
  subst he
  refine ⟨lim.keeps x1.toInCall.keep, codeAny_func (wpAny_mono (ht.run [] s1 (L2.start N vs) H _ (L2H.inv_startH S hp e0 hl r x1) hq) (fun fl s' h' => ?_) fun _ _ z => z)⟩
  cases fl with
  | brk => exact h'.elim fun _ z => z.elim fun _ z => False.elim z.2
  | cont => exact h'.elim fun _ z => z.elim fun _ z => False.elim z.2
  | next =>
    obtain ⟨σ', H', J, z⟩ := h'
    exact ⟨V.non, H', J.os, J.bare, J.base, J.hok, rfl, z⟩
  | ret u =>
    obtain ⟨v, σ', H', J, rv, z⟩ := h'
    exact ⟨v, H', J.os, J.bare, J.base, J.hok, rv, z⟩
/-- x(e), e the handled exception at slot i; what it promises is told by sp -/
def HotSp := Addr × Obj → Hp → VK → Prop
def HotFn (P : Program) (w : World) (K : PySem.W.Frag) (mg : Str → Option Value) (base : Heap) (k : Nat) (f : Addr) (sp : HotSp) : Prop :=
  ∀ (A : Around) (outer : List Env) (s : Shared) (H : Hp) (Q : VK) (p : Addr × Obj), L2H.RoomH k A → L2H.Hot1 A p → L2H.PinOk outer H s p → Env0 P w K mg base A outer s H → sp p H Q → codeAny (model P w) A (.call (.ref f) ⟨[.ref p.1], []⟩) (CR (L2N.CX P w) outer P w H s Q E0) s
theorem pe_hot {X : Cx} {f : Addr} {x y : Str} {k i : Nat} {sp : HotSp} {p : Addr × Obj} {q q2 pos : Pos} (F : HotFn X.prog X.w X.K X.mg X.base k f sp) (hr : L2H.RoomH k X.A) (hot : L2H.Hot1 X.A p) (hp : p ∈ X.pn) (hm : X.mg x = some (.ref f)) (hk : PySem.W.keepIn X.K (.ref f) = true) (hN : X.N[i]? = some y) (hv : Vis X.env.scope y)
    (hg : Gl X x := by rfl) (hdb : (x == ("__debug__" : Str)) = false := by decide) (hd : (y == ("__debug__" : Str)) = false := by decide) (hcd : (y == ("__classdict__" : Str)) = false := by decide) :
    PE X (.Call (.Name x q) [.Name y q2] [] pos) (fun σ H Q => σ[i]? = some (some (.ref p.1)) ∧ sp p H Q) := by
  refine ⟨fun pins s σ H Q I h => ?_⟩
  obtain ⟨hi, h⟩ := h
  have ha : PA X [.Name y q2] (tCons (tVar i) tNil) := pa_cons (pe_var hN hv hd hcd) pa_nil
  refine wpAny_Call_Name_kw (ld_glob I hg hm (PySem.W.callWith_K (h₀ := X.base) I.ok.mod.kin hk (thn (ha.run pos pins s σ H (fun vs H1 => vs = [.ref p.1] ∧ H1 = H) I ⟨_, hi, rfl, rfl⟩) fun us s1 h1 => ?_) rfl rfl) hdb)
  obtain ⟨vs, H1, I1, r, rfl, rfl⟩ := h1
  refine ⟨I1.kIn, ?_⟩
  cases r with
  | cons r1 r2 =>
    cases r2
    cases r1
    have pn := I1.pin p (List.mem_append_left _ hp)
    have po : L2H.PinOk X.stack H1 s1 p := ⟨pn.1, pn.2.1, fun z => (List.mem_cons.mp (I1.stkSub p.1 z)).elim pn.2.2.1 pn.2.2.2.1, pn.2.2.2.2⟩
    refine wpAny_call (codeAny_mono (F X.A X.stack s1 H1 Q p hr hot po I1.env0 h) fun res s2 hq => ?_)
    match res, hq with
    | .ok (.ret u), hq => exact I1.after hq
    | .error e, hq => exact passF pins σ H1 s1 e s2 I1 hq
/-- isinstance(e, c), e the exception at the pin -/
theorem cr_isP {X : Cx} {D : Addr} {p : Addr × Obj} (C : ExcC X.K D) (hp : p ∈ X.pn) (h1 : p.2.cls = .ref D) (h2 : p.2.dict = none) (hf : ∃ vs, p.2.data = .fields vs) : CallR X (.builtin "isinstance") (rIsE X.K D p.1) := by
  intro pins s σ H xs us Q I r h
  obtain ⟨c, cv, b, rfl, hc, e, q⟩ := h
  match us, r with
  | [_, u2], .cons r1 (.cons r2 .nil) =>
    obtain rfl := hc _ r2
    obtain rfl : _ = Value.ref p.1 := r1
    have get := (I.pin p (List.mem_append_left _ hp)).1
    obtain ⟨vs, hd⟩ := hf
    have J : PySem.W.InstAt s.heap p.1 p.2 D none := by
      generalize p.2 = o at *
      cases o
      dsimp only at h1 h2 hd
      subst h1 h2 hd
      exact ⟨get, rfl, rfl, trivial⟩
    exact PySem.W.kia_one (PySem.W.handS_kitx_exc C.hg C.hk C.hs C.hd C.ha C.hn C.ht C.hm) I.kIn J e (fun z => nomatch z) fun tk => ⟨.bl b, H, I.kept (t' := tk) fun _ _ z => z, rfl, q⟩
end
end Vw
namespace Vw
open PySem PySem.Spec PyProof.Rows L2 HotX
/-! ### lambdas without parameters; exceptions whose context is None -/
def lamN (X : Cx) (A : Around) (outer : List Env) (s : Shared) (H : Hp) (E : XK) (scope : Scope) (f c : Addr) : Cx :=
  (LamX.lamCx X A outer s H E scope f c).tr [] fun e s' => wpAny (model X.prog X.w) (LamX.lamCx X A outer s H E scope f c).A (leaving (LamX.lamCx X A outer s H E scope f c).env e) (fun _ => L2N.CX X.prog X.w outer H s E e) (L2N.CX X.prog X.w outer H s E) s'
section
variable {X : Cx}
theorem takesL {A : Around} {outer : List Env} {s : Shared} {H : Hp} {E : XK} {scope : Scope} {f c : Addr} : L2N.Takes (lamN X A outer s H E scope f c) (fun cls d _ H' => E cls d H') := L2N.takes_of rfl rfl rfl rfl
theorem passL {A : Around} {outer : List Env} {s : Shared} {H : Hp} {E : XK} {scope : Scope} {f c : Addr} : Passes (L2N.CX (lamN X A outer s H E scope f c).prog (lamN X A outer s H E scope f c).w) (lamN X A outer s H E scope f c) E := L2N.passes_call takesL fun _ _ _ _ h => h
abbrev lamQ (X : Cx) : Str := X.env.qual ++ "<lambda>"
abbrev lamObj (X : Cx) (params : Arguments) (body : Expr) (scope : Scope) (pm ctv : Value) (c : Addr) : Obj := PySem.W.kla_obj "<lambda>" (lamQ X) params body scope (cloFrom X.env.cells scope.names []) pm c ctv
/-- the lambda called, in the def that got it -/
theorem act_n {CXg : CXT} {Eg E : XK} {Ng : List Str} {qg a : Str} {sg scope : Scope} {g f c : Addr} {cdg pm ctv : Value} {params : Arguments} {body : Expr} {k i : Nat} {pn pins : List (Addr × Obj)} {xe : Value → Shared → Prop} {W : WX} {tb : TE} {p1 p2 : Pos} {σ : L2.St} {H : Hp} {s : Shared}
    (I : Inv X pins σ H s) (L : LamX.LamS X.env.scope scope) (hf : s.heap.get? f = some (lamObj X params body scope pm ctv c)) (hfn : H f = none) (hfr : f ∉ frs X.stack)
    (hbind : bindArgs (PySem.W.kla_fn "<lambda>" (lamQ X) params body scope (cloFrom X.env.cells scope.names []) pm (.ref c) ctv) ⟨[], []⟩ = pure [])
    (tk : L2N.Takes ((cxOf CXg X.prog X.w X.K X.mg X.base Ng qg sg g cdg X.A X.stack s H Eg).tr pn xe) W) (hW : ∀ cls d σ' H', E cls d H' → W cls d σ' H') (hr : Room (k + 1) (X.A.deeper (envOfC qg sg s.heap.objs.size g cdg)))
    (hbody : ∀ (A : Around) (outer : List Env) (s : Shared) (H : Hp), Room k (A.deeper (LamX.lamEnv X scope s.heap.objs.size f c)) → PE (lamN X A outer s H E scope f c) body tb)
    (hN : Ng[i]? = some a) (hv : Vis sg a) (hd : (a == ("__debug__" : Str)) = false) (hcd : (a == ("__classdict__" : Str)) = false) :
    PE ((cxOf CXg X.prog X.w X.K X.mg X.base Ng qg sg g cdg X.A X.stack s H Eg).tr pn xe) (.Call (.Name a p1) [] [] p2) (fun σZ HZ Q => σZ[i]? = some (some (.ref f)) ∧ HZ c = some (LamX.CodeO c (lamQ X)) ∧ tb σ HZ Q) := by
  refine ⟨fun pinsZ sZ σZ HZ Q IZ h => ?_⟩
  have var := (pe_var (X := (cxOf CXg X.prog X.w X.K X.mg X.base Ng qg sg g cdg X.A X.stack s H Eg).tr pn xe) (pos := p1) (i := i) hN hv hd hcd).run pinsZ sZ σZ HZ (fun v H1 => v = .ref f ∧ H1 = HZ) IZ ⟨_, h.1, rfl, rfl⟩
  refine wpAny_Call_Name_kw (thn var fun u s1 h1 => ?_)
  obtain ⟨v, H1, I1, r1, rfl, rfl⟩ := h1
  obtain rfl : u = Value.ref f := r1
  have obj : s1.heap.get? f = some (lamObj X params body scope pm ctv c) := I1.base.keep f _ hf hfn hfr (by intro z; cases z)
  have un : Un (frs X.stack) [] H H1 s.heap s1.heap := I1.base
  obtain ⟨⟨oc, vs, t, hoc, hdc, hvc⟩, _⟩ := I1.hok c _ h.2.1
  have go : codeAny (model X.prog X.w) (X.A.deeper (envOfC qg sg s.heap.objs.size g cdg)) (.call (.ref f) ⟨[], []⟩) (CR (L2N.CX X.prog X.w) (envOfC qg sg s.heap.objs.size g cdg :: X.stack) X.prog X.w H1 s1 Q E) s1 := by
    refine PySem.W.kla_callFunE hr.depth obj rfl L.co L.gen rfl ⟨c, oc, vs, t, rfl, hoc, hdc, hvc⟩ ?_
    rw [hbind]
    refine wpAny_pure (wpAny_newFunctionEnv (fun y hy => (L.own y hy).2) (fun y hy => nomatch hy) (fun h2 ns sb => ⟨I1.nolimit.fresh _ sb, ?_⟩) L.kind)
    have kp : ∀ b o, s1.heap.get? b = some o → h2.get? b = some o := fun b o e => sb.extBut b o (Nat.ne_of_lt (Heap.lt_size e)) (Heap.get?_push_of_some _ e)
    have J := LamX.lam_start2 (f := f) (c' := c) (E := E) (tk := s1.toks + ([] : List (Str × Value)).length) I L I1.env0 hr.hd un ns kp
    refine PySem.W.kla_codeExpr (wpAny_mono ((hbody _ _ s1 H1 (hr.deeper _)).run [] _ σ H1 Q (J.toTry _) h.2.2) (fun v s' hq => ?_) fun _ _ z => z)
    obtain ⟨x, H', J', rv, q⟩ := hq
    exact ⟨x, H', J'.os, J'.bare, J'.base, J'.hok, rv, q⟩
  refine PySem.W.callWith_F0 ⟨_, _, _, _, obj⟩ (wpAny_call (codeAny_mono go fun res s' hq => ?_))
  match res, hq with
  | .ok (.ret u), hq => exact I1.after hq
  | .error e, hq => exact L2N.passes_call tk hW pinsZ σZ H1 s1 e s' I1 hq
theorem takes_len {W : WX} (tk : L2N.Takes X W) : L2N.Takes X (fun cls d σ H => σ.length = X.N.length → W cls d σ H) := fun u s' x => by
  obtain ⟨a, B, sI, pins, σ, H, cls, d, e, I, nb, up, sky, na, os, ag, z⟩ := x
  exact tk u s' ⟨a, B, sI, pins, σ, H, cls, d, e, I, nb, up, sky, na, os, ag, z I.len⟩
theorem pss_imp {ss : List Stmt} {t t' : TS} (h : PSs X ss t) (i : ∀ D σ H, t' D σ H → t D σ H) : PSs X ss t' := ⟨fun pins s σ H D I q => h.run pins s σ H D I (i D σ H q)⟩
theorem cxH_K {CX : CXT} {P : Program} {w : World} {K : PySem.W.Frag} {mg : Str → Option Value} {base : Heap} {N : List Str} {qual : Str} {sc : Scope} {f : Addr} {cd : Value} {A : Around} {outer : List Env} {s : Shared} {H : Hp} {E : XK} {p : Addr × Obj} :
    (L2H.cxH CX P w K mg base N qual sc f cd A outer s H E p).K = K := rfl
/-- what a refusal of the class x is told as -/
def Refu (x : Str) (H : Hp) (Q : VK) : Prop := ∀ r H', H r = none → Same H H' → H' r = some (.tup [.str "refused", .str x]) → Q (.ref r) H'
def spWord (K : PySem.W.Frag) (cs : List Str) : HotSp := fun p H Q => ∃ x ∈ cs, p.2.cls = .ref (He.ga K x) ∧ p.2.dict = none ∧ (∃ vs, p.2.data = .fields vs) ∧ Refu x H Q
def eTold (K : PySem.W.Frag) (cs : List Str) (Q : VK) : XK := fun cls d H => ∃ x ∈ cs, cls = .ref (He.ga K x) ∧ d = none ∧ Refu x H Q
def tTold (K : PySem.W.Frag) (cs : List Str) (T : List (Addr × Str)) (t : XK → TE) : TE := fun σ H Q => LamX.Tabs T H ∧ ∀ H1, LamX.ExtN H H1 → LamX.Tabs T H1 → t (eTold K cs Q) σ H1 Q
/-- told(lambda: body); told: try: return a() / except WoodError as e: return word(e) -/
theorem pe_told {T : List (Addr × Str)} {cs : List Str} {x a n wd we : Str} {st : Stmt} {g fw c P : Addr} {fd : FuncData} {k : Nat} {Ng : List Str} {params : Arguments} {body : Expr} {scope : Scope} {t : XK → TE} {p lpos pos p1 p2 p3 p4 p5 p6 p7 p8 p9 : Pos}
    (F : FunD X.K x x (defArgs st) (defBody st) (defScope st) [] [] g fd) (Sg : FnScope Ng [a] (defScope st)) (hb : BindEq x x st [a])
    (hbd : defBody st = [.Try [.Return (some (.Call (.Name a p1) [] [] p2)) p3] [.ExceptHandler (some (.Name we p4)) (some n) [.Return (some (.Call (.Name wd p5) [.Name n p6] [] p7)) p8] p9] [] [] p])
    (hm : X.mg x = some (.ref g)) (hwe : X.mg we = some (.ref (He.ga X.K "WoodError"))) (hwd : X.mg wd = some (.ref fw)) (hkw : PySem.W.keepIn X.K (.ref fw) = true) (Fw : HotFn X.prog X.w X.K X.mg X.base 2 fw (spWord X.K cs)) (hcs : ∀ x ∈ cs, PySem.W.exmOne X.K (.ref (He.ga X.K x)) (.ref (He.ga X.K "WoodError")) = some true)
    (hN0 : Ng[0]? = some a) (hva : Vis (defScope st) a) (hN1 : Ng[1]? = some n) (hvn : (defScope st).names.lookup n = some .local) (hgwe : (defScope st).names.lookup we = some .globalImplicit) (hgwd : (defScope st).names.lookup wd = some .globalImplicit) (hst : ∀ f : Addr, L2.start Ng [V.ref f] = [some (.ref f), none])
    (TB : LamX.TabB X.base X.mg c P) (hcode : X.env.code = .ref c) (hmT : (P, lamQ X) ∈ T) (hu : ∀ p ∈ T, p.1 = P → p.2 = lamQ X) (hr : Room (k + 4) X.A) (L : LamX.LamS X.env.scope scope) (hdef : defaultsOf params X.env = ([], []))
    (hbind : ∀ (q : Str) (cl : List (Str × Addr)) (pm cv ctv : Value), bindArgs (PySem.W.kla_fn "<lambda>" q params body scope cl pm cv ctv) ⟨[], []⟩ = pure [])
    (hbody : ∀ (A : Around) (outer : List Env) (s : Shared) (H : Hp) (E : XK) (f c' : Addr), Room (k + 2) (A.deeper (LamX.lamEnv X scope s.heap.objs.size f c')) → PE (lamN X A outer s H E scope f c') body (t E))
    (hg : Gl X x := by rfl) (hdb : (x == ("__debug__" : Str)) = false := by decide) (hd : (a == ("__debug__" : Str)) = false := by decide) (hcd : (a == ("__classdict__" : Str)) = false := by decide)
    (hdw : (we == ("__debug__" : Str)) = false := by decide) (hdd : (wd == ("__debug__" : Str)) = false := by decide) (hn1 : (n == ("__debug__" : Str)) = false := by decide) (hn2 : (n == ("__classdict__" : Str)) = false := by decide) {q0 : Pos} :
    PE X (.Call (.Name x q0) [.Lambda params body scope lpos] [] pos) (tTold X.K cs T t) := by
  refine ⟨fun pins s σ H Q I h => ?_⟩
  obtain ⟨hT, h⟩ := h
  refine wpAny_Call_Name_kw (ld_glob I hg hm (PySem.W.callWith_K (h₀ := X.base) I.ok.mod.kin F.kp ?_ (by rfl) (by rfl)) hdb)
  refine Calls.spliced_cons (LamX.lam_make2 I TB hcode hmT hu hT hdef (L.has I.ok) fun f c1 pm ctv H1 s1 I1 eN T1 hf hfn hfr hco => Calls.spliced_nil ⟨I1.kIn, ?_⟩)
  have q1 := h H1 eN T1
  have BT := F.bindsN hb s1 [.ref f] I1.kIn rfl
  obtain ⟨oc, od, dV, kV, doc, pm2, an, cdv, ct, osl, rfl, lk, hcd2, _, _⟩ := F.ex
  have run : codeAny (model X.prog X.w) X.A (.call (.ref g) ⟨[.ref f], []⟩) (CR (L2N.CX X.prog X.w) X.stack X.prog X.w H1 s1 Q E0) s1 := by
    refine LamX.run_ofS (k := k + 3) (N := Ng) (ps := [a]) (us := [.ref f]) (vs := [.ref f]) lk hcd2 Sg hr I1.env0 BT (.cons rfl .nil) rfl fun hr2 => ?_
    rw [hbd]
    refine ⟨_, pss_one (L2N.ps_try_as (X := cxN X.prog X.w X.K X.mg X.base Ng x (defScope st) g cdv X.A X.stack s1 H1 E0) (c := .ref (He.ga X.K "WoodError")) (i := 1) (Wout := fun cls d _ H' => E0 cls d H')
      (tb := fun W D σZ HZ => ∃ E : XK, (∀ cls d (σ' : L2.St) H', E cls d H' → σ'.length = Ng.length → W cls d σ' H') ∧ σZ[0]? = some (some (.ref f)) ∧ HZ c1 = some (LamX.CodeO c1 (lamQ X)) ∧ t E σ HZ D.rt)
      (ts := fun a cls d D σZ HZ => σZ[1]? = some (some (.ref a)) ∧ ∃ x ∈ cs, cls = .ref (He.ga X.K x) ∧ d = none ∧ Refu x HZ D.rt)
      rfl rfl Sg.nd hN1 hvn ⟨hgwe, hdw, .inl hwe⟩ takesE (fun W pn xe tk _ => ?_) (fun ax oe cls d pn hz hfd => ?_)), ?_⟩
    · refine ⟨fun pins2 s2 σ2 H2 D I2 h2 => ?_⟩
      obtain ⟨E, hW, e1, e2, e3⟩ := h2
      exact (pss_one (ps_ret (act_n (p1 := p1) (p2 := p2) (i := 0) I1 L hf hfn hfr (hbind _ _ _ _ _) (takes_len tk) hW hr2 (fun A outer s H hr3 => hbody A outer s H E f c1 hr3) hN0 hva hd hcd))).run pins2 s2 σ2 H2 D I2 ⟨e1, e2, e3⟩
    · have ctx : ∃ vs : Array Value, oe.data = .fields vs ∧ vs[2]? = some Value.none := by
        obtain ⟨vs, e⟩ := hfd
        exact ⟨vs, e, hz.2.2 vs e⟩
      refine pss_imp (pss_one (ps_ret (pe_hot (i := 1) (p := (ax, oe)) Fw ?_ ⟨rfl, ctx⟩ List.mem_cons_self hwd hkw hN1 (.inl hvn) hgwd hdd hn1 hn2))) fun D σ2 H2 hq => ?_
      · have a1 := hr2.dp
        have a2 := hr2.un
        refine ⟨?_, ?_⟩
        · show (X.A.deeper (envOfC x (defScope st) s1.heap.objs.size g cdv)).depth + 3 * 2 + 5 < recursionLimit
          omega
        · show (X.A.deeper (envOfC x (defScope st) s1.heap.objs.size g cdv)).units + 16 * 2 + 200 < cLine
          omega
      · obtain ⟨e1, x, hx, e2, e3, e4⟩ := hq
        exact ⟨e1, x, hx, hz.1.trans e2, hz.2.1.trans e3, hfd, e4⟩
    · refine ⟨eTold X.K cs Q, fun cls d σ' H' z hlen => ?_, by rw [hst]; rfl, hco, q1⟩
      obtain ⟨x, hx, rfl, rfl, e⟩ := z
      refine ⟨true, hcs x hx, fun _ ax nax => ⟨?_, x, hx, rfl, rfl, e⟩, fun z => by cases z⟩
      have l2 : 1 < σ'.length := by
        rw [hlen]
        exact (List.getElem?_eq_some_iff.mp hN1).1
      simp [l2]
  refine wpAny_call (codeAny_mono run fun res s2 hq => ?_)
  match res, hq with
  | .ok (.ret u), hq => exact I1.after hq
  | .error e, hq => exact passF pins σ H1 s1 e s2 I1 hq
end
end Vw
namespace Vw
open PySem PySem.Spec PyProof.Rows L2
/-! ### rules that forget all of a new object but that the rest stays -/
def tMon (t : TA) : TA := fun σ H Q => ∃ R, t σ H R ∧ ∀ vs H1, R vs H1 → Q vs H1
section
variable {X : Cx} {es : List Expr} {t : TA} {e : Expr} {te te' : TE} {pos : Pos}
theorem pa_mon (h : PA X es t) : PA X es (tMon t) := ⟨fun pos pins s σ H Q I z => by
  obtain ⟨R, h1, h2⟩ := z
  exact thn (h.run pos pins s σ H R I h1) fun us s1 ⟨vs, H1, I1, r, q⟩ => ⟨vs, H1, I1, r, h2 vs H1 q⟩⟩
theorem pe_imp (h : PE X e te) (i : ∀ σ H Q, te' σ H Q → te σ H Q) : PE X e te' := ⟨fun pins s σ H Q I z => h.run pins s σ H Q I (i σ H Q z)⟩
def New (o : HO) (H : Hp) (Q : VK) : Prop := ∀ p H', H p = none → Same H H' → H' p = some o → Q (.ref p) H'
theorem New.use {o : HO} {H : Hp} {Q : VK} (h : New o H Q) : ∀ p, H p = none → Q (.ref p) (upd H p o) := fun p n => h p _ n (Same.new n) upd_same
def tTupS (t : TA) : TE := fun σ H Q => t σ H fun xs H1 => xs.length ≤ sizeLine ∧ New (.tup xs) H1 Q
def tLstS (t : TA) : TE := fun σ H Q => t σ H fun xs H1 => xs.length ≤ sizeLine ∧ New (.lst xs) H1 Q
theorem pe_tupS {x1 : Nat} (h : PA X es t) : PE X (.Tuple es x1 pos) (tTupS t) := pe_imp (pe_tup (pa_mon h)) fun σ H Q z => ⟨_, z, fun vs H1 q => ⟨q.1, q.2.use⟩⟩
theorem pe_lstS (h : PA X es t) : PE X (.List es pos) (tLstS t) := pe_imp (pe_lst (pa_mon h)) fun σ H Q z => ⟨_, z, fun vs H1 q => ⟨q.1, q.2.use⟩⟩
def tDNewKS : TE := fun _ H Q => New (.dK []) H Q
def tDNewTS : TE := fun _ H Q => New (.dT []) H Q
theorem pe_dnewKS : PE X (.Dict [] [] pos) tDNewKS := pe_imp pe_dnewK fun σ H Q z => z.use
theorem pe_dnewTS : PE X (.Dict [] [] pos) tDNewTS := pe_imp pe_dnewT fun σ H Q z => z.use
def rCatN : R2 := fun x y H Q => ∃ l b xs zs, x = .ref l ∧ y = .ref b ∧ H l = some (.lst xs) ∧ H b = some (.lst zs) ∧ xs.length + zs.length ≤ sizeLine ∧ New (.lst (xs ++ zs)) H Q
theorem op_catN : OpR X (binaryOp .Add) rCatN := fun pins s σ H x y v u Q I rx ry h => by
  obtain ⟨l, b, xs, zs, h1, h2, h3, h4, h5, h6⟩ := h
  exact op_cat pins s σ H x y v u Q I rx ry ⟨l, b, xs, zs, h1, h2, h3, h4, h5, h6.use⟩
def rSlN (K : PySem.W.Frag) : V → Option Int → Option Int → Hp → VK → Prop := fun x lo hi H Q => ∃ a xs, x = .ref a ∧ SqL K H a xs ∧ New (.lst (cutV xs lo hi)) H Q
theorem sl_listN : SlR X (rSlN X.K) := fun pins s σ H x v vl vu lo hi sl Q I rx hs pl pu h => by
  obtain ⟨a, xs, h1, h2, h3⟩ := h
  exact sl_list pins s σ H x v vl vu lo hi sl Q I rx hs pl pu ⟨a, xs, h1, h2, h3.use⟩
/-- t[lo:hi] of a tuple: new, or t itself -/
def rSlTN (K : PySem.W.Frag) : V → Option Int → Option Int → Hp → VK → Prop := fun x lo hi H Q => ∃ a xs, x = .ref a ∧ SqT K H a xs ∧ ∀ p H', Same H H' → SqT K H' p (cutV xs lo hi) → Q (.ref p) H'
theorem sl_tupN : SlR X (rSlTN X.K) := fun pins s σ H x v vl vu lo hi sl Q I rx hs pl pu h => by
  obtain ⟨a, xs, h1, h2, h3⟩ := h
  refine sl_tupA pins s σ H x v vl vu lo hi sl Q I rx hs pl pu ⟨a, xs, h1, h2, fun w => h3 a H (Same.refl _) ?_, fun w p n => h3 p _ (Same.new n) (.inl (.inl upd_same))⟩
  have e : cutV xs lo hi = xs := by
    unfold cutV
    rw [w.1, w.2]
    simp
  rw [e]
  exact h2
def rSortedN (K : PySem.W.Frag) : List V → Hp → VK → Prop := fun vs H Q => ∃ (a : Addr) (ns : List Int), vs = [V.ref a] ∧ SqL K H a (ns.map V.int) ∧ ns.length < 64 ∧ ∀ ns' : List Int, ns'.Perm ns → ns'.Pairwise (· ≤ ·) → New (.lst (ns'.map V.int)) H Q
theorem cr_sortedN : CallR X (.builtin "sorted") (rSortedN X.K) := fun pins s σ H vs us Q I r h => by
  obtain ⟨a, ns, h1, h2, h3, h4⟩ := h
  exact cr_sorted pins s σ H vs us Q I r ⟨a, ns, h1, h2, h3, fun ys p y1 y2 n => (h4 ys y1 y2).use p n⟩
def rSortedDN : List V → Hp → VK → Prop := fun xs H Q => ∃ (a : Addr) (kvs : List (Key × V)) (ks : List Int), xs = [.ref a] ∧ Rd H a (.dK kvs) ∧ kvs.map (·.1) = ks.map Sum.inl ∧ ks.length < 64 ∧ ∀ ys : List Int, ys.Perm ks → ys.Pairwise (· ≤ ·) → New (.lst (ys.map V.int)) H Q
theorem call_sortedDN (hc : X.calm = true) : CallR X (.builtin "sorted") rSortedDN := fun pins s σ H vs us Q I r h => by
  obtain ⟨a, kvs, ks, h1, h2, h3, h4, h5⟩ := h
  exact call_sortedDI hc pins s σ H vs us Q I r ⟨a, kvs, ks, h1, h2, h3, h4, fun ys p y1 y2 n => (h5 ys y1 y2).use p n⟩
end
theorem _root_.L2.Same.over {H H' : Hp} {l : Addr} {o : HO} (s : Same H H') (n : H l = none) : Same H (upd H' l o) := fun b u e => by
  rw [upd_ne (ne_of_none e n)]
  exact s b u e
theorem pe_ixL (K : PySem.W.Frag) {X : Cx} {o i : Expr} {to ti : TE} {pos : Pos} (ho : PE X o to) (hi : PE X i ti) (hs : NoSl i := by exact fun _ _ => rfl) (hK : X.K = K := by rfl) : PE X (.Subscript o i pos) (tOp (rIxL K) to ti) := by
  subst hK
  exact pe_ix ix_list ho hi hs
theorem pe_ixT (K : PySem.W.Frag) {X : Cx} {o i : Expr} {to ti : TE} {pos : Pos} (ho : PE X o to) (hi : PE X i ti) (hs : NoSl i := by exact fun _ _ => rfl) (hK : X.K = K := by rfl) : PE X (.Subscript o i pos) (tOp (rIxT K) to ti) := by
  subst hK
  exact pe_ix ix_tup ho hi hs
/-! ### a def with lambdas: its code object is known -/
section
variable {P : Program} {w : World} {K : PySem.W.Frag} {mg : Str → Option Value} {base : Heap}
theorem mk_defC {x qual : Str} {st : Stmt} {N ps : List Str} {k : Nat} {sp : Sp} (F : Is K x qual st (He.ga K x)) (S : FnScope N ps (defScope st)) (hb : BindEq x qual st ps) (len : ∀ vs H Q E, sp vs H Q E → vs.length = ps.length)
    (body : ∀ (cdv : Value) (A : Around) (outer : List Env) (s : Shared) (H : Hp) (vs : List V) (Q : VK) (E : XK), cdv = .ref (He.cT K (x, none)).1 → Room k (A.deeper (envOfC qual (defScope st) s.heap.objs.size (He.ga K x) cdv)) → sp vs H Q E →
      ∃ t, PSs (cxN P w K mg base N qual (defScope st) (He.ga K x) cdv A outer s H E) (defBody st) t ∧ t { nx := fun _ H' => Q .non H', rt := Q } (L2.start N vs) H) :
    Def P w K mg base (k + 1) (He.ga K x) ps sp := by
  obtain ⟨fd, F⟩ := F
  have bn := F.bindsN hb
  have kp := F.kp
  obtain ⟨oc, od, dV, kV, doc, pm, an, cdv, ct, osl, rfl, lk, hcd, _, _⟩ := F.ex
  obtain ⟨c, rfl⟩ := He.codeIn_ref hcd
  have e : (He.cT K (x, none)).1 = c := He.codeOf_eq (p := (x, none)) lk rfl
  refine ⟨⟨_, fn_of lk hcd S len fun A outer s H vs Q E hr hsp => ?_, bn⟩, kp⟩
  exact body (.ref c) A outer s H vs Q E (by rw [e]) hr hsp
end
section
variable {P : Program} {w : World} {K : PySem.W.Frag} {mg : Str → Option Value} {base : Heap}
theorem fn_defC {x qual : Str} {st : Stmt} {N ps : List Str} {k : Nat} {sp : Sp} {fd : FuncData} (F : FunD K x qual (defArgs st) (defBody st) (defScope st) [] [] (He.ga K x) fd) (S : FnScope N ps (defScope st)) (len : ∀ vs H Q E, sp vs H Q E → vs.length = ps.length)
    (body : ∀ (cdv : Value) (A : Around) (outer : List Env) (s : Shared) (H : Hp) (vs : List V) (Q : VK) (E : XK), cdv = .ref (He.cT K (x, none)).1 → Room k (A.deeper (envOfC qual (defScope st) s.heap.objs.size (He.ga K x) cdv)) → sp vs H Q E →
      ∃ t, PSs (cxN P w K mg base N qual (defScope st) (He.ga K x) cdv A outer s H E) (defBody st) t ∧ t { nx := fun _ H' => Q .non H', rt := Q } (L2.start N vs) H) :
    FnOk P w K mg base (L2N.CX P w) (k + 1) (He.ga K x) fd ps sp := by
  obtain ⟨oc, od, dV, kV, doc, pm, an, cdv, ct, osl, rfl, lk, hcd, _, _⟩ := F.ex
  obtain ⟨c, rfl⟩ := He.codeIn_ref hcd
  have e : (He.cT K (x, none)).1 = c := He.codeOf_eq (p := (x, none)) lk rfl
  exact fn_of lk hcd S len fun A outer s H vs Q E hr hsp => body (.ref c) A outer s H vs Q E (by rw [e]) hr hsp
end
/-! ### numbers -/
theorem useI {c : Int → Int → Prop} {g : Int → Int → V} {i j : Int} {H : Hp} {Q : VK} (h : c i j) (q : Q (g i j) H) : rI c g (.int i) (.int j) H Q := ⟨i, j, rfl, rfl, h, q⟩
theorem mulx {i j : Int} {a b : Nat} (ha : i.natAbs < 2 ^ a) (hb : j.natAbs < 2 ^ b) (h : a + b ≤ 134217728) : CMulX i j := mulx_ok ha hb h
theorem abs_lt {i : Int} {n : Nat} (h0 : 0 ≤ i) (h : i < 2 ^ n) : i.natAbs < 2 ^ n := by
  have e : ((2 ^ n : Nat) : Int) = 2 ^ n := by simp
  omega
theorem atI_nn {α : Type} {xs : List α} {i : Int} (h0 : 0 ≤ i) (h1 : i < xs.length) : atI xs i = xs[i.toNat]? := by
  unfold atI ixN
  rw [if_pos h0, if_pos h1]
  rfl
def cellM (sc : List Int) (k : Int) : Int := if sc = [] then k * 7919 else (sc[(k % sc.length).toNat]?).getD 0 + k / sc.length * 104729
def bigB : Nat := 3000000
def drawM (c k : Int) : Int :=
  let a := (c * 6364136223846793005 + (k + 1) * 1442695040888963407) % 340282366920938463463374607431768211507
  let b := a * a % 340282366920938463463374607431768211297
  (b % 18446744073709551557 + 1) * (b / 18446744073709551557 + 1) * b % 340282366920938463463374607431768211507
theorem drawM_range (c k : Int) : 0 ≤ drawM c k ∧ drawM c k < 340282366920938463463374607431768211507 := by
  unfold drawM
  exact ⟨Int.emod_nonneg _ (by decide), Int.emod_lt_of_pos _ (by decide)⟩
theorem use_isP {K : PySem.W.Frag} {D a D' : Addr} {b : Bool} {H : Hp} {Q : VK} (e : PySem.W.kitOne K (.ref D) (.ref D') = some b) (q : Q (.bl b) H) : rIsE K D a [.ref a, .ref D'] H Q := ⟨.ref D', .ref D', b, rfl, fun _ r => r, e, q⟩
theorem use_isV {K : PySem.W.Frag} {D a : Addr} {t : String} {b : Bool} {H : Hp} {Q : VK} (e : PySem.W.kitOne K (.ref D) (.type t) = some b) (q : Q (.bl b) H) : rIsE K D a [.ref a, .ty t] H Q := ⟨.ty t, .type t, b, rfl, fun _ r => r, e, q⟩
def spCell (K : PySem.W.Frag) : Sp := fun vs H Q _ => ∃ (p : Addr) (sc : List Int) (k : Int), vs = [.ref p, .int k] ∧ SqL K H p (sc.map V.int) ∧ sc.length ≤ 100 ∧ 0 ≤ k ∧ k < 1000 ∧ ∀ H', Same H H' → Q (.int (cellM sc k)) H'
def spDraw : Sp := fun vs H Q _ => ∃ c k : Int, vs = [.int c, .int k] ∧ c.natAbs < 2 ^ bigB ∧ k.natAbs < 2 ^ 200 ∧ Q (.int (drawM c k)) H
def bigC : Nat := 1048577
theorem pow_sum {a b : Nat} (h30 : 30 ≤ a) (h : a + 1 ≤ b) : 2 ^ a + 2 ^ 30 ≤ 2 ^ b := by
  have x : 2 ^ 30 ≤ 2 ^ a := Nat.pow_le_pow_right (by omega) h30
  have y : 2 ^ a + 2 ^ a = 2 ^ (a + 1) := by rw [Nat.pow_succ]; omega
  have z : 2 ^ (a + 1) ≤ 2 ^ b := Nat.pow_le_pow_right (by omega) h
  omega
theorem cell_abs {sc : List Int} {k : Int} (h0 : 0 ≤ k) (h1 : k < 1000) (hs : ∀ z ∈ sc, z.natAbs < 2 ^ bigC) : (cellM sc k).natAbs < 2 ^ bigB := by
  have big : 2 ^ bigC + 2 ^ 30 ≤ 2 ^ bigB := pow_sum (by unfold bigC; omega) (by unfold bigC bigB; omega)
  have s30 : (2 : Nat) ^ 30 = 1073741824 := by decide
  generalize 2 ^ bigB = B at *
  generalize 2 ^ bigC = C at *
  unfold cellM
  split
  · omega
  · have a : ((sc[(k % sc.length).toNat]?).getD 0).natAbs < C ∨ ((sc[(k % sc.length).toNat]?).getD 0) = 0 := by
      cases q : sc[(k % sc.length).toNat]? with
      | none => exact .inr rfl
      | some z => exact .inl (hs z (List.mem_of_getElem? q))
    have d0 : 0 ≤ k / (sc.length : Int) := Int.ediv_nonneg h0 (by omega)
    have d1 : k / (sc.length : Int) ≤ k := Int.ediv_le_self _ h0
    omega
end Vw
namespace Vw
open PySem PySem.Spec PyProof.Rows L2
local macro_rules | `(tactic| walk_at "rd") => `(tactic| simp only [tSeq, tNext, tIfS, tAsg, tRet, tRetN, tDrop, tVar, tC, tOp, tUn, tTest, tB, tAnd, tOr, tNot, tAndV, tOrV, tNotV, tIf, tChain, tCB, tCons, tNil, tCall, tMeth, tMake, tFld, sFld, tTup, tLst, tTupS, tLstS, tDNewKS, tDNewTS, tTold, tCmp, t2I, tIsN, tNotN, tPar, gName, gNil, gCons, gTup, gSub, rI0, rU, rEq, rNe, tDGet, tDIn, tDNotIn, sDPut, tDNewK, tDGet1, tDGet2, tDPop1, tDPop2, tBM, tBM0, tM0, tM1, tSl, tPart, tNoPart, tBreak, tCont, tThru, L2.start, List.map_cons, List.map_nil, List.length_cons, List.length_nil, List.cons_append, List.nil_append, List.append_nil, List.replicate_succ, List.replicate_zero, Nat.reduceAdd, Nat.reduceSub, Nat.zero_add, List.getElem?_cons_zero, List.getElem?_cons_succ, List.set_cons_zero, List.set_cons_succ, wipe, cxOf_K, tYes, List.cons.injEq, and_self, Option.some.injEq, V.int.injEq, V.bl.injEq, V.ref.injEq, V.str.injEq, exists_eq_left', exists_eq_left, exists_and_left, and_assoc, true_and, and_true, if_true, if_false, ite_true, ite_false, Bool.not_true, Bool.not_false, Bool.false_eq_true, reduceIte])
/-! ### what the laws share: cells, draws -/
section
variable {P : Program} {w : World} {K : PySem.W.Frag} {mg : Str → Option Value} {base : Heap}
abbrev N__law_cell : List Str := ["script", "k"]
theorem sc__law_cell : FnScope N__law_cell ["script", "k"] (defScope s__law_cell) := ⟨rfl, rfl, rfl, by decide +kernel, rfl, by decide +kernel, by decide +kernel⟩
theorem be__law_cell : BindEq "_law_cell" "_law_cell" s__law_cell ["script", "k"] := fun _ _ _ _ _ _ us hl => match us, hl with | [_, _], _ => rfl
theorem D__law_cell (T : Txt K mg base) : Def P w K mg base 1 (He.ga K "_law_cell") ["script", "k"] (spCell K) := by
  refine mk_def T.f__law_cell sc__law_cell be__law_cell (fun vs H Q E h => ?_) (fun cdv A outer s H vs Q E hr h => ?_)
  · obtain ⟨p, sc, k, rfl, _⟩ := h
    rfl
  · obtain ⟨p, sc, k, rfl, hp, hl, h0, h1, q⟩ := h
    refine ⟨_, (pss_cons (ps_if (pt_eqd (pv 0) (pe_lstS pa_nil) (by exact hr.units)) (pss_one (ps_ret (pe_op op_mulX (pv 1) pe_int))) pss_nil)
      (pss_one (ps_ret (pe_op op_add (pe_ix ix_list (pv 0) (pe_op op_mod (pv 1) (pe_callB call_len_seq (by rfl) T.b_len (by decide +kernel) (pa_cons (pv 0) pa_nil))) (fun _ _ => rfl)) (pe_op op_mulX (pe_op op_fdivW (pv 1) (pe_callB call_len_seq (by rfl) T.b_len (by decide +kernel) (pa_cons (pv 0) pa_nil))) pe_int))))), ?_⟩
    walk_at "rd"
    refine ⟨Nat.zero_le _, fun l H1 hl0 s1 e0 => ?_⟩
    have e1 : SqL K H1 p (sc.map V.int) := s1.seq hp
    refine use_eqD (.lst e1 (dps_ints sc)) (dp_ints (ns := []) e0) (shaped_ints _) (shaped_ints []) ⟨_, rfl, ?_⟩
    rw [eqv_ints]
    have kb : k.natAbs < 2 ^ 10 := by omega
    by_cases hs : sc = []
    · rw [decide_eq_true hs]
      refine iteT (useI (mulx (b := 13) kb (by decide) (by omega)) ?_)
      have e : cellM sc k = k * 7919 := by rw [cellM, if_pos hs]
      rw [← e]
      exact q _ s1
    · rw [decide_eq_false hs]
      have ln : 0 < sc.length := List.length_pos_iff.mpr hs
      have lm : (sc.map V.int).length = sc.length := List.length_map _
      refine iteF ⟨_, .inl e1, useI (by rw [lm]; omega) ⟨p, _, _, V.int ((sc[(k % sc.length).toNat]?).getD 0), rfl, rfl, e1, ?_, ⟨_, .inl e1, useI ?_ (useI ?_ ⟨_, rfl, _, rfl, ?_⟩)⟩⟩⟩
      · have m0 : 0 ≤ k % (sc.length : Int) := Int.emod_nonneg _ (by omega)
        have m1 : k % (sc.length : Int) < sc.length := Int.emod_lt_of_pos _ (by omega)
        have hj : (k % sc.length).toNat < sc.length := by omega
        rw [lm]
        rw [atI_nn m0 (by rw [lm]; exact m1), List.getElem?_map, List.getElem?_eq_getElem hj]
        rfl
      · rw [lm]
        exact wide_div (b := 10) (by omega) (by omega) (by decide) (by decide)
      · rw [lm]
        refine mulx (a := 11) (b := 20) ?_ (by decide) (by omega)
        have d0 : 0 ≤ k / (sc.length : Int) := Int.ediv_nonneg h0 (by omega)
        have d1 : k / (sc.length : Int) ≤ k := Int.ediv_le_self _ h0
        omega
      · rw [lm]
        have e : cellM sc k = (sc[(k % sc.length).toNat]?).getD 0 + k / sc.length * 104729 := by rw [cellM, if_neg hs]
        rw [← e]
        exact q _ s1
abbrev N__law_drawn : List Str := ["cell", "k", "more"]
theorem sc__law_drawn : FnScope N__law_drawn ["cell", "k"] (defScope s__law_drawn) := ⟨rfl, rfl, rfl, by decide +kernel, rfl, by decide +kernel, by decide +kernel⟩
theorem be__law_drawn : BindEq "_law_drawn" "_law_drawn" s__law_drawn ["cell", "k"] := fun _ _ _ _ _ _ us hl => match us, hl with | [_, _], _ => rfl
theorem D__law_drawn (T : Txt K mg base) : Def P w K mg base 1 (He.ga K "_law_drawn") ["cell", "k"] spDraw := by
  refine mk_def T.f__law_drawn sc__law_drawn be__law_drawn (fun vs H Q E h => ?_) (fun cdv A outer s H vs Q E hr h => ?_)
  · obtain ⟨c, k, rfl, _⟩ := h
    rfl
  · obtain ⟨c, k, rfl, hc, hk, q⟩ := h
    refine ⟨_, (pss_cons (ps_set (i := 2) sc__law_drawn.nd rfl (Or.inl rfl) (pe_op op_mod (pe_op op_add (pe_op op_mulX (pv 0) pe_int) (pe_op op_mulX (pe_op op_add (pv 1) pe_int) pe_int)) pe_int))
      (pss_cons (ps_set (i := 2) sc__law_drawn.nd rfl (Or.inl rfl) (pe_op op_mod (pe_op op_mulX (pv 2) (pv 2)) pe_int))
      (pss_cons (ps_set (i := 2) sc__law_drawn.nd rfl (Or.inl rfl) (pe_op op_mulX (pe_op op_mulX (pe_op op_add (pe_op op_mod (pv 2) pe_int) pe_int) (pe_op op_add (pe_op op_fdivW (pv 2) pe_int) pe_int)) (pv 2)))
      (pss_one (ps_ret (pe_op op_mod (pv 2) pe_int)))))), ?_⟩
    walk_at "rd"
    have k1 : (k + 1).natAbs < 2 ^ 201 := by
      have : (2 : Nat) ^ 201 = 2 ^ 200 + 2 ^ 200 := by decide
      have : 1 ≤ (2 : Nat) ^ 200 := by decide
      omega
    refine useI (mulx (b := 64) hc (by decide) (by unfold bigB; omega)) (useI (mulx (b := 64) k1 (by decide) (by omega)) ⟨_, rfl, _, rfl, useI (by decide) ?_⟩)
    generalize ha : (c * 6364136223846793005 + (k + 1) * 1442695040888963407) % 340282366920938463463374607431768211507 = a
    have a0 : 0 ≤ a := by
      rw [← ha]
      exact Int.emod_nonneg _ (by decide)
    have a1 : a < 2 ^ 129 := by
      have := Int.emod_lt_of_pos (c * 6364136223846793005 + (k + 1) * 1442695040888963407) (b := 340282366920938463463374607431768211507) (by decide)
      rw [ha] at this
      exact Int.lt_trans this (by decide)
    refine useI (mulx (abs_lt a0 a1) (abs_lt a0 a1) (by omega)) (useI (by decide) ?_)
    generalize hb : a * a % 340282366920938463463374607431768211297 = b
    have b0 : 0 ≤ b := by
      rw [← hb]
      exact Int.emod_nonneg _ (by decide)
    have b1 : b < 2 ^ 129 := by
      have := Int.emod_lt_of_pos (a * a) (b := 340282366920938463463374607431768211297) (by decide)
      rw [hb] at this
      exact Int.lt_trans this (by decide)
    refine useI (by decide) ⟨_, rfl, useI (wide_div (b := 100) (by decide) (by decide) (by decide) (by decide)) ⟨_, rfl, ?_⟩⟩
    have c1 : (b % 18446744073709551557 + 1).natAbs < 2 ^ 65 := by omega
    have c2 : (b / 18446744073709551557 + 1).natAbs < 2 ^ 130 := by omega
    refine useI (mulx c1 c2 (by omega)) (useI (mulx (wide_lt c1 c2) (abs_lt b0 b1) (by omega)) (useI (by decide) ?_))
    have e : drawM c k = (b % 18446744073709551557 + 1) * (b / 18446744073709551557 + 1) * b % 340282366920938463463374607431768211507 := by
      unfold drawM
      dsimp only
      rw [ha, hb]
    rw [← e]
    exact q
end
end Vw
namespace Vw
open PySem PySem.Spec PyProof.Rows L2
local macro_rules | `(tactic| walk_at "rd") => `(tactic| simp only [tSeq, tNext, tIfS, tAsg, tRet, tRetN, tDrop, tVar, tC, tOp, tUn, tTest, tB, tAnd, tOr, tNot, tAndV, tOrV, tNotV, tIf, tChain, tCB, tCons, tNil, tCall, tMeth, tMake, tFld, sFld, tTup, tLst, tTupS, tLstS, tDNewKS, tDNewTS, tTold, tCmp, t2I, tIsN, tNotN, tPar, gName, gNil, gCons, gTup, gSub, rI0, rU, rEq, rNe, tDGet, tDIn, tDNotIn, sDPut, tDNewK, tDGet1, tDGet2, tDPop1, tDPop2, tBM, tBM0, tM0, tM1, tSl, tPart, tNoPart, tBreak, tCont, tThru, L2.start, List.map_cons, List.map_nil, List.length_cons, List.length_nil, List.cons_append, List.nil_append, List.append_nil, List.replicate_succ, List.replicate_zero, Nat.reduceAdd, Nat.reduceSub, Nat.zero_add, List.getElem?_cons_zero, List.getElem?_cons_succ, List.set_cons_zero, List.set_cons_succ, wipe, cxOf_K, tYes, List.cons.injEq, and_self, Option.some.injEq, V.int.injEq, V.bl.injEq, V.ref.injEq, V.str.injEq, exists_eq_left', exists_eq_left, exists_and_left, and_assoc, true_and, and_true, if_true, if_false, ite_true, ite_false, Bool.not_true, Bool.not_false, Bool.false_eq_true, reduceIte])
abbrev ws : List Str := ["BadDeed", "BadName", "BadNumber", "BadText", "Full", "NoSaying", "NotKin", "NotYours", "Nothing"]
theorem ws_sum : ∀ c ∈ errs, ((ws.map fun x => decide (c = x)).map n01).sum = 1 := by decide +kernel
theorem ws_at : ∀ c ∈ errs, ws[ws.idxOf c]? = some c ∧ (ws.map fun x => decide (c = x))[ws.idxOf c]? = some true ∧ ∀ m < ws.idxOf c, (ws.map fun x => decide (c = x))[m]? = some false := by decide +kernel
section
variable {P : Program} {w : World} {K : PySem.W.Frag} {mg : Str → Option Value} {base : Heap}
abbrev N__law_word : List Str := ["e", "flags", "some", "flag"]
theorem sc__law_word : FnScope N__law_word ["e"] (defScope s__law_word) := ⟨rfl, rfl, rfl, by decide +kernel, rfl, by decide +kernel, by decide +kernel⟩
theorem be__law_word : BindEq "_law_word" "_law_word" s__law_word ["e"] := fun _ _ _ _ _ _ us hl => match us, hl with | [_], _ => rfl
theorem H__law_word (T : Txt K mg base) : HotFn P w K mg base 2 (He.ga K "_law_word") (spWord K errs) := by
  intro A outer s H Q p hr hot pin e0 h
  obtain ⟨c, hc0, h1, h2, hf, q⟩ := h
  obtain ⟨fd, F⟩ := T.f__law_word
  have C0 := (T.wd c hc0).e
  refine hot_run (N := N__law_word) (k := 1) F sc__law_word be__law_word hr pin e0 (.cons (a := V.ref p.1) rfl .nil) rfl (fun cdv hr => ?_)
  have hp : p ∈ (L2H.cxH (L2N.CX P w) P w K mg base N__law_word "_law_word" (defScope s__law_word) (He.ga K "_law_word") cdv A outer s H E0 p).pn := List.mem_cons_self
  have hc : L2H.HotC (L2H.cxH (L2N.CX P w) P w K mg base N__law_word "_law_word" (defScope s__law_word) (He.ga K "_law_word") cdv A outer s H E0 p) := ⟨p, hot, hp⟩
  refine ⟨_, (pss_cons (ps_set (i := 1) sc__law_word.nd rfl (Or.inl rfl) (pe_lstS (pa_cons (pe_callB (cr_isP C0 hp h1 h2 hf) (by rfl) T.b_isinstance (by decide +kernel) (pa_cons (pv 0) (pa_cons (pe_glob (v := .ref _) rfl T.x_BadDeed.g rfl) pa_nil))) (pa_cons (pe_callB (cr_isP C0 hp h1 h2 hf) (by rfl) T.b_isinstance (by decide +kernel) (pa_cons (pv 0) (pa_cons (pe_glob (v := .ref _) rfl T.x_BadName.g rfl) pa_nil))) (pa_cons (pe_callB (cr_isP C0 hp h1 h2 hf) (by rfl) T.b_isinstance (by decide +kernel) (pa_cons (pv 0) (pa_cons (pe_glob (v := .ref _) rfl T.x_BadNumber.g rfl) pa_nil))) (pa_cons (pe_callB (cr_isP C0 hp h1 h2 hf) (by rfl) T.b_isinstance (by decide +kernel) (pa_cons (pv 0) (pa_cons (pe_glob (v := .ref _) rfl T.x_BadText.g rfl) pa_nil))) pa_nil))))))
      (pss_cons (ps_set (i := 1) sc__law_word.nd rfl (Or.inl rfl) (pe_op op_catN (pv 1) (pe_lstS (pa_cons (pe_callB (cr_isP C0 hp h1 h2 hf) (by rfl) T.b_isinstance (by decide +kernel) (pa_cons (pv 0) (pa_cons (pe_glob (v := .ref _) rfl T.x_Full.g rfl) pa_nil))) (pa_cons (pe_callB (cr_isP C0 hp h1 h2 hf) (by rfl) T.b_isinstance (by decide +kernel) (pa_cons (pv 0) (pa_cons (pe_glob (v := .ref _) rfl T.x_NoSaying.g rfl) pa_nil))) (pa_cons (pe_callB (cr_isP C0 hp h1 h2 hf) (by rfl) T.b_isinstance (by decide +kernel) (pa_cons (pv 0) (pa_cons (pe_glob (v := .ref _) rfl T.x_NotKin.g rfl) pa_nil))) (pa_cons (pe_callB (cr_isP C0 hp h1 h2 hf) (by rfl) T.b_isinstance (by decide +kernel) (pa_cons (pv 0) (pa_cons (pe_glob (v := .ref _) rfl T.x_NotYours.g rfl) pa_nil))) pa_nil)))))))
      (pss_cons (ps_expr (pe_bm PySem.F.plainAttrs_list PySem.F.slot_list_append PySem.F.type_list_append mt_append (pv 1) (pa_cons (pe_callB (cr_isP C0 hp h1 h2 hf) (by rfl) T.b_isinstance (by decide +kernel) (pa_cons (pv 0) (pa_cons (pe_glob (v := .ref _) rfl T.x_Nothing.g rfl) pa_nil))) pa_nil)))
      (pss_cons (ps_if (PW.pt (pw_or (pt_cmpR op_ne (pe_sumflags hc (pv 1) T.b_sum T.b_int (by rfl) (by decide +kernel) (by decide +kernel) rfl (by decide +kernel) rfl (by rfl)) pe_int (nomark _)) (pw_or1 (pt_not (pt_val (pe_callB (cr_isP C0 hp h1 h2 hf) (by rfl) T.b_isinstance (by decide +kernel) (pa_cons (pv 0) (pa_cons (pe_bltn (v := .ty "ValueError") (by rfl) T.b_ValueError (by decide +kernel) rfl) pa_nil)))))))) (pss_one (ps_ret (pe_tupS (pa_cons pe_str (pa_cons pe_str pa_nil))))) pss_nil)
      (pss_cons (ps_set (i := 2) sc__law_word.nd rfl (Or.inl rfl) (pe_lstS (pa_cons pe_str (pa_cons pe_str (pa_cons pe_str (pa_cons pe_str (pa_cons pe_str (pa_cons pe_str (pa_cons pe_str (pa_cons pe_str (pa_cons pe_str pa_nil)))))))))))
      (pss_one (ps_ret (pe_tupS (pa_cons pe_str (pa_cons (pe_ix ix_list (pv 2) (pe_bm PySem.F.plainAttrs_list PySem.F.slot_list_index PySem.F.type_list_index mt_index (pv 1) (pa_cons pe_bl pa_nil)) (fun _ _ => rfl)) pa_nil)))))))))), ?_⟩
  walk_at "rd"
  simp only [cxH_K, tSumF, tVar]
  have z1 : (16 : Nat) ≤ sizeLine := by rw [sizeLine_eq]; omega
  have is {H1 : Hp} {a : Addr} {Q1 : VK} (x : Str) (hx : x ∈ errs) (q : Q1 (.bl (decide (c = x))) H1) : rIsE K (He.ga K c) a [.ref a, .ref (He.ga K x)] H1 Q1 := use_isP ((T.wd c hc0).d x hx) q
  refine is _ (by decide +kernel) (is _ (by decide +kernel) (is _ (by decide +kernel) (is _ (by decide +kernel) ⟨by omega, fun l1 H1 n1 s1 e1 => ?_⟩)))
  refine is _ (by decide +kernel) (is _ (by decide +kernel) (is _ (by decide +kernel) (is _ (by decide +kernel) ⟨by omega, fun l2 H2 n2 s2 e2 => ?_⟩)))
  refine ⟨l1, l2, _, _, rfl, rfl, s2 _ _ e1, e2, by simp; omega, fun l3 H3 n3 s3 e3 => ?_⟩
  refine ⟨.inl ⟨rfl, _, SqL.of e3⟩, is _ (by decide +kernel) ?_⟩
  refine ⟨l3, _, _, rfl, rfl, e3, by simp; omega, _, rfl, l3, ws.map fun x => decide (c = x), rfl, SqL.of upd_same, ?_⟩
  have s4 := s3.over (o := .lst ((ws.map fun x => decide (c = x)).map V.bl)) n3
  have e4 : upd H3 l3 (.lst ((ws.map fun x => decide (c = x)).map V.bl)) l3 = _ := upd_same
  change scal _ _ = true ∧ (if (!decide (V.int _ = V.int 1)) = true then _ else rIsE _ _ _ _ (upd H3 l3 (.lst ((ws.map fun x => decide (c = x)).map V.bl))) _)
  generalize upd H3 l3 (.lst ((ws.map fun x => decide (c = x)).map V.bl)) = H4 at s4 e4 ⊢
  rw [ws_sum c hc0]
  refine ⟨rfl, iteF (use_isV (T.wd c hc0).v ⟨_, rfl, iteF ⟨by omega, fun l5 H5 n5 s5 e5 => ?_⟩⟩)⟩
  obtain ⟨a1, a2, a3⟩ := ws_at c hc0
  have e6 := s5 _ _ e4
  refine ⟨.inl ⟨rfl, _, SqL.of e6⟩, l3, _, _, ws.idxOf c, V.bl true, rfl, rfl, SqL.of e6, rfl, by rw [List.all_map]; exact List.all_eq_true.mpr fun _ _ => rfl, by rw [List.getElem?_map, a2]; rfl, rfl, fun m z hm hz => ?_, l5, _, _, .str c, rfl, rfl, SqL.of e5, ?_, by omega, fun r H6 n6 s6 e7 => q r H6 ?_ ?_ e7⟩
  · rw [List.getElem?_map, a3 m hm] at hz
    cases hz
    rfl
  · obtain ⟨lt, _⟩ := List.getElem?_eq_some_iff.mp a1
    have lt9 : ws.idxOf c < 9 := lt
    rw [atI_nn (by omega) (by show ((ws.idxOf c : Nat) : Int) < 9; omega), Int.toNat_natCast]
    have e : ([V.str "BadDeed", V.str "BadName", V.str "BadNumber", V.str "BadText", V.str "Full", V.str "NoSaying", V.str "NotKin", V.str "NotYours", V.str "Nothing"] : List V) = ws.map V.str := rfl
    rw [e, List.getElem?_map, a1]
    rfl
  · exact s1.free (s2.free (s4.free (s5.free n6)))
  · exact ((s1.trans s2).trans s4).trans (s5.trans s6)
end
end Vw
namespace Vw
open PySem PySem.Spec PyProof.Rows L2
local macro_rules | `(tactic| walk_at "rd") => `(tactic| simp only [tSeq, tNext, tIfS, tAsg, tRet, tRetN, tDrop, tVar, tC, tOp, tUn, tTest, tB, tAnd, tOr, tNot, tAndV, tOrV, tNotV, tIf, tChain, tCB, tCons, tNil, tCall, tMeth, tMake, tFld, sFld, tTup, tLst, tTupS, tLstS, tDNewKS, tDNewTS, tTold, tCmp, t2I, tIsN, tNotN, tPar, gName, gNil, gCons, gTup, gSub, rI0, rU, rEq, rNe, tDGet, tDIn, tDNotIn, sDPut, tDNewK, tDGet1, tDGet2, tDPop1, tDPop2, tBM, tBM0, tM0, tM1, tSl, tPart, tNoPart, tBreak, tCont, tThru, L2.start, List.map_cons, List.map_nil, List.length_cons, List.length_nil, List.cons_append, List.nil_append, List.append_nil, List.replicate_succ, List.replicate_zero, Nat.reduceAdd, Nat.reduceSub, Nat.zero_add, List.getElem?_cons_zero, List.getElem?_cons_succ, List.set_cons_zero, List.set_cons_succ, wipe, cxOf_K, tYes, List.cons.injEq, and_self, Option.some.injEq, V.int.injEq, V.bl.injEq, V.ref.injEq, V.str.injEq, exists_eq_left', exists_eq_left, exists_and_left, and_assoc, true_and, and_true, if_true, if_false, ite_true, ite_false, Bool.not_true, Bool.not_false, Bool.false_eq_true, reduceIte])
section
variable {P : Program} {w : World} {K : PySem.W.Frag} {mg : Str → Option Value} {base : Heap}
abbrev N__law_told : List Str := ["deed", "e"]
theorem sc__law_told : FnScope N__law_told ["deed"] (defScope s__law_told) := ⟨rfl, rfl, rfl, by decide +kernel, rfl, by decide +kernel, by decide +kernel⟩
theorem be__law_told : BindEq "_law_told" "_law_told" s__law_told ["deed"] := fun _ _ _ _ _ _ us hl => match us, hl with | [_], _ => rfl
theorem tabs_one {P : Addr} {p : Addr × Str} {q : Str} (hp : p ∈ [(P, q)]) : p.2 = q := by
  have e : p = (P, q) := by simpa using hp
  rw [e]
/-- told(lambda: body) in the def x -/
theorem pe_tld {N : List Str} {x : Str} {sc : Scope} {f : Addr} {cdv : Value} {A : Around} {outer : List Env} {s : Shared} {H : Hp} {E : XK} {k : Nat} {params : Arguments} {body : Expr} {scope : Scope} {t : XK → TE} {q0 lpos pos : Pos} (T : Txt K mg base)
    (hcd : cdv = .ref (He.cT K (x, none)).1) (TB : LamX.TabB base mg (He.cT K (x, none)).1 (He.cT K (x, none)).2) (hr : Room (k + 4) (cxN P w K mg base N x sc f cdv A outer s H E).A)
    (L : LamX.LamS sc scope) (hdef : defaultsOf params (cxN P w K mg base N x sc f cdv A outer s H E).env = ([], []))
    (hbind : ∀ (q : Str) (cl : List (Str × Addr)) (pm cv ctv : Value), bindArgs (PySem.W.kla_fn "<lambda>" q params body scope cl pm cv ctv) ⟨[], []⟩ = pure [])
    (hbody : ∀ (A2 : Around) (outer2 : List Env) (s2 : Shared) (H2 : Hp) (E2 : XK) (f2 c2 : Addr), Room (k + 2) (A2.deeper (LamX.lamEnv (cxN P w K mg base N x sc f cdv A outer s H E) scope s2.heap.objs.size f2 c2)) → PE (lamN (cxN P w K mg base N x sc f cdv A outer s H E) A2 outer2 s2 H2 E2 scope f2 c2) body (t E2))
    (hmT : ((He.cT K (x, none)).2, lamQ (cxN P w K mg base N x sc f cdv A outer s H E)) ∈ tabs K := by first | exact List.mem_cons_self | (simp; done)) (hu : ∀ p ∈ tabs K, p.1 = (He.cT K (x, none)).2 → p.2 = lamQ (cxN P w K mg base N x sc f cdv A outer s H E) := by exact fun p hp _ => tabs_one hp)
    (hg : Gl (cxN P w K mg base N x sc f cdv A outer s H E) "_law_told" := by rfl) :
    PE (cxN P w K mg base N x sc f cdv A outer s H E) (.Call (.Name "_law_told" q0) [.Lambda params body scope lpos] [] pos) (tTold K errs (tabs K) t) := by
  obtain ⟨fd, F⟩ := T.f__law_told
  obtain ⟨fdw, Fw⟩ := T.f__law_word
  exact pe_told (X := cxN P w K mg base N x sc f cdv A outer s H E) (T := tabs K) (cs := errs) (a := "deed") (n := "e") (wd := "_law_word") (we := "WoodError") (st := s__law_told) (fw := He.ga K "_law_word") (Ng := N__law_told) F sc__law_told be__law_told rfl T.g__law_told T.x_WoodError.g T.g__law_word Fw.kp (H__law_word T) (fun x hx => (T.wd x hx).m)
    rfl (Or.inl rfl) rfl rfl rfl rfl (fun f => rfl) TB hcd hmT hu hr L hdef hbind hbody hg
end
end Vw
namespace Vw
open PySem PySem.Spec PyProof.Rows L2
/-! ### what stays of the law's own objects -/
def IsP (o : HO) : Prop := (∃ C x f, o = .ins C x f) ∨ ∃ k, o = .dK k
/-- all but instances and their dicts stay -/
def K2 (H H' : Hp) : Prop := ∀ b o, H b = some o → ¬ IsP o → H' b = some o
def LK (H H' : Hp) : Prop := ∀ b o, H b = some o → ¬ IsP o → (∀ t, o ≠ .tbl t) → H' b = some o
theorem K2.lk {H H' : Hp} (k : K2 H H') : LK H H' := fun b o h n _ => k b o h n
theorem K2.same {H H' : Hp} (s : Same H H') : K2 H H' := fun b o h _ => s b o h
theorem LK.same {H H' : Hp} (s : Same H H') : LK H H' := fun b o h _ _ => s b o h
theorem LK.trans {H H1 H2 : Hp} (a : LK H H1) (b : LK H1 H2) : LK H H2 := fun c o h n m => b c o (a c o h n m) n m
theorem LK.ext {H H' : Hp} (e : LamX.ExtN H H') : LK H H' := fun b o h _ n => e b o h n
theorem not_lst (xs : List V) : ¬ IsP (.lst xs) := fun z => by rcases z with ⟨_, _, _, z⟩ | ⟨_, z⟩ <;> cases z
theorem not_tup (xs : List V) : ¬ IsP (.tup xs) := fun z => by rcases z with ⟨_, _, _, z⟩ | ⟨_, z⟩ <;> cases z
theorem not_dT (xs : List (List Key × V)) : ¬ IsP (.dT xs) := fun z => by rcases z with ⟨_, _, _, z⟩ | ⟨_, z⟩ <;> cases z
theorem not_tbl (t : Array Value) : ¬ IsP (.tbl t) := fun z => by rcases z with ⟨_, _, _, z⟩ | ⟨_, z⟩ <;> cases z
theorem not_frz (o : Obj) (u : HO) : ¬ IsP (.frz o u) := fun z => by rcases z with ⟨_, _, _, z⟩ | ⟨_, z⟩ <;> cases z
theorem not_code (c : Addr) (q : Str) : ¬ IsP (LamX.CodeO c q) := fun z => by unfold LamX.CodeO at z; rcases z with ⟨_, _, _, z⟩ | ⟨_, z⟩ <;> cases z
theorem LK.lst {H H' : Hp} {a : Addr} {xs : List V} (k : LK H H') (h : H a = some (.lst xs)) : H' a = some (.lst xs) := k _ _ h (not_lst _) (by intro t z; cases z)
theorem LK.tup {H H' : Hp} {a : Addr} {xs : List V} (k : LK H H') (h : H a = some (.tup xs)) : H' a = some (.tup xs) := k _ _ h (not_tup _) (by intro t z; cases z)
theorem LK.dT {H H' : Hp} {a : Addr} {xs : List (List Key × V)} (k : LK H H') (h : H a = some (.dT xs)) : H' a = some (.dT xs) := k _ _ h (not_dT _) (by intro t z; cases z)
theorem LK.seq {K : PySem.W.Frag} {H H' : Hp} {a : Addr} {xs : List V} (k : LK H H') (h : SqL K H a xs) : SqL K H' a xs := by
  rcases h with (h | ⟨o, h⟩) | h
  · exact .inl (.inl (k.lst h))
  · exact .inl (.inr ⟨o, k _ _ h (not_frz _ _) (by intro t z; cases z)⟩)
  · exact .inr h
theorem K2.tabs {T : List (Addr × Str)} {H H' : Hp} (k : K2 H H') (t : LamX.Tabs T H) : LamX.Tabs T H' := fun p hp => by
  obtain ⟨ps, h1, h2, h3⟩ := t p hp
  refine ⟨ps, k _ _ h1 (not_tbl _), h2, fun pos cv hc => ?_⟩
  obtain ⟨c, e1, e2⟩ := h3 pos cv hc
  exact ⟨c, e1, k _ _ e2 (not_code _ _)⟩
theorem upd_tabs {T : List (Addr × Str)} {H : Hp} {d : Addr} {o u : HO} (t : LamX.Tabs T H) (hd : H d = some u) (n1 : ∀ ps, u ≠ .tbl ps) (n2 : ∀ c q, u ≠ LamX.CodeO c q) : LamX.Tabs T (upd H d o) := fun p hp => by
  obtain ⟨ps, h1, h2, h3⟩ := t p hp
  refine ⟨ps, by rw [upd_ne (fun z => n1 ps (by rw [← z, h1] at hd; exact (Option.some.inj hd).symm))]; exact h1, h2, fun pos cv hc => ?_⟩
  obtain ⟨c, e1, e2⟩ := h3 pos cv hc
  exact ⟨c, e1, by rw [upd_ne (fun z => n2 c p.2 (by rw [← z, e2] at hd; exact (Option.some.inj hd).symm))]; exact e2⟩
theorem upd_tabsT {T : List (Addr × Str)} {H : Hp} {d : Addr} {o : HO} {k : List (List Key × V)} (t : LamX.Tabs T H) (hd : H d = some (.dT k)) : LamX.Tabs T (upd H d o) := upd_tabs t hd (by intro ps z; cases z) (by intro c q z; unfold LamX.CodeO at z; cases z)
theorem WoodAt.wk {K : PySem.W.Frag} {H H' : Hp} {L : Lay} (W : WoodAt K H L) (s : ∀ b o, H b = some o → IsP o → H' b = some o) : WoodAt K H' L :=
  ⟨s _ _ W.top (.inl ⟨_, _, _, rfl⟩), s _ _ W.dic (.inr ⟨_, rfl⟩), fun e he => ⟨s _ _ (W.say e he).o (.inl ⟨_, _, _, rfl⟩), s _ _ (W.say e he).d (.inr ⟨_, rfl⟩), (W.say e he).nd, (W.say e he).sz⟩, W.nk, W.nda, W.ndv, W.dv, W.pa, W.sz⟩
theorem WoodAt.ext {K : PySem.W.Frag} {H H' : Hp} {L : Lay} (W : WoodAt K H L) (e : LamX.ExtN H H') : WoodAt K H' L := W.wk fun b o h p => e b o h fun ps z => by
  rw [z] at p
  exact not_tbl _ p
theorem WoodAt.updT {K : PySem.W.Frag} {H : Hp} {L : Lay} {d : Addr} {o : HO} {k : List (List Key × V)} (W : WoodAt K H L) (hd : H d = some (.dT k)) : WoodAt K (upd H d o) L := W.wk fun b u h p => by
  rw [upd_ne (fun z => by rw [z, hd] at h; cases h; exact not_dT _ p)]
  exact h
theorem foot_obj {K : PySem.W.Frag} {H : Hp} {L : Lay} (W : WoodAt K H L) {b : Addr} {o : HO} (hb : b ∈ foot L) (h : H b = some o) : IsP o := by
  have q : b = L.p ∨ b = L.d ∨ b ∈ L.ents.map (·.a) ∨ b ∈ L.ents.map (·.v) := by
    unfold foot at hb
    simpa only [List.mem_cons, List.mem_append] using hb
  rcases q with rfl | rfl | q | q
  · rw [W.top] at h
    cases h
    exact .inl ⟨_, _, _, rfl⟩
  · rw [W.dic] at h
    cases h
    exact .inr ⟨_, rfl⟩
  · obtain ⟨e, he, rfl⟩ := List.mem_map.mp q
    rw [(W.say e he).o] at h
    cases h
    exact .inl ⟨_, _, _, rfl⟩
  · obtain ⟨e, he, rfl⟩ := List.mem_map.mp q
    rw [(W.say e he).d] at h
    cases h
    exact .inr ⟨_, rfl⟩
theorem Step.k2 {K : PySem.W.Frag} {H H' : Hp} {L L' : Lay} (S : Step H L H' L') (W : WoodAt K H L) : K2 H H' := fun b o h n => S.keep b o (fun hb => n (foot_obj W hb h)) h
/-- for over range(n): what comes behind the body is told by its three wishes -/
theorem forR2 {n : Int} {ta : TA} {g : TG} {tb : TS} {D : Ends} {σ : L2.St} {H : Hp} (src : ∀ R : List V → Hp → Prop, R [.int n] H → ta σ H R) (hn : n < 100000) (Pv : Nat → L2.St → Hp → Prop) (h0 : Pv 0 σ H)
    (hs : ∀ (i : Nat) σ' H' (D' : Ends), (i : Int) < n → Pv i σ' H' → (∀ σ2 H2, Pv (i + 1) σ2 H2 → D'.nx σ2 H2) → (∀ σ2 H2, Pv (i + 1) σ2 H2 → D'.ct σ2 H2) → D'.rt = D.rt → D'.bk = D.nx → g (.int i) σ' H' fun σ2 H2 => tb D' σ2 H2)
    (hd : ∀ σ' H', Pv n.toNat σ' H' → D.nx σ' H') (hl : -100000 < n := by omega) : tFor (iRng1 ta) g tb D σ H :=
  forR src hn Pv h0 (fun i σ' H' hi p => hs i σ' H' _ hi p (fun _ _ h => h) (fun _ _ h => h) rfl rfl) hd hl
theorem forL2 {α : Type} {K : PySem.W.Frag} {te0 : TE} {g : TG} {tb : TS} {D : Ends} {σ : L2.St} {H : Hp} {l : List α} (it : α → V) (src : ∀ R : VK, (∀ p H1, Same H H1 → SqL K H1 p (l.map it) → R (.ref p) H1) → te0 σ H R)
    (Pv : Addr → Nat → L2.St → Hp → Prop) (h0 : ∀ p H1, Same H H1 → SqL K H1 p (l.map it) → Pv p 0 σ H1) (hG : ∀ p i σ' H', i ≤ l.length → Pv p i σ' H' → SqL K H' p (l.map it))
    (hs : ∀ p i a σ' H' (D' : Ends), l[i]? = some a → Pv p i σ' H' → (∀ σ2 H2, Pv p (i + 1) σ2 H2 → D'.nx σ2 H2) → (∀ σ2 H2, Pv p (i + 1) σ2 H2 → D'.ct σ2 H2) → D'.rt = D.rt → D'.bk = D.nx → g (it a) σ' H' fun σ2 H2 => tb D' σ2 H2)
    (hd : ∀ p σ' H', Pv p l.length σ' H' → D.nx σ' H') : tFor (iList K te0) g tb D σ H :=
  forL it src Pv h0 hG (fun p i a σ' H' hi q => hs p i a σ' H' _ hi q (fun _ _ h => h) (fun _ _ h => h) rfl rfl) hd
/-- over the keys of a dict whose keys are tuples, under its lock -/
theorem lcT {te0 : TE} {g : TG} {tt : TT} {te : TE} {vs : List Nat} {σ : L2.St} {H : Hp} {Q : VK} {α : Type} {l : List α} {d : Addr} (kv : α → List Key × V) (f : α → Option V) (hk : H d = some (.dT (l.map kv))) (src : ∀ (H' : Hp) (R : VK), R (.ref d) H' → te0 σ H' R) (hn : l.length < sizeLine)
    (hs : ∀ a H' od q, a ∈ l → H' d = some (.frz od (.dT (l.map kv))) → H' q = some (.tup ((kv a).1.map kV)) → Turn1 f g tt te vs σ H' a (.ref q))
    (hd : ∀ D H', H D = none → Same H H' → H' D = some (.lst (l.filterMap f)) → Q (.ref D) H') : tLockE (tLc (iKeys te0) g tt te vs) σ H Q := by
  refine ⟨d, _, hk, trivial, fun od => src _ _ ⟨d, od, rfl, .inr ⟨_, upd_same, fun D hD => ?_⟩⟩⟩
  have nD : D ≠ d := fun z => by
    rw [z, upd_same] at hD
    cases hD
  have w : Walk (Itkt d od (l.map kv)) l.length (fun H => H d = some (.frz od (.dT (l.map kv)))) (fun i H x H' => H' = H ∧ ∃ (k : List Key) (v : V) (q : Addr), (l.map kv)[i]? = some (k, v) ∧ x = .ref q ∧ H q = some (.tup (k.map kV))) := by
    have w := walk_keysT (d := d) (o := od) (kvs := l.map kv)
    rw [List.length_map] at w
    exact w
  refine lc_ro l w f hn hD (fun H' s => s _ _ upd_same) (fun i a x H2 H3 ha s2 y => ?_) (fun H' s2 e => ⟨s2 _ _ upd_same, hd D _ (by rw [upd_ne nD] at hD; exact hD) (Same.lock hk s2) (by rw [upd_ne nD]; exact e)⟩)
  obtain ⟨rfl, k, v, q, hx, rfl, hq⟩ := y
  have e : (k, v) = kv a := by
    rw [List.getElem?_map, ha] at hx
    exact (Option.some.inj hx).symm
  have e1 : k = (kv a).1 := congrArg Prod.fst e
  rw [e1] at hq
  exact hs a _ od q (List.mem_of_getElem? ha) (s2 _ _ upd_same) hq
section
variable {K : PySem.W.Frag} {H : Hp} {L : Lay} {Q : VK} {E : XK} {m : Int} {r : Row}
theorem says_row (hm : sayingM L.wd (.int m) = some (m, r)) {e : Ent} (he : sayingD L (.int m) = some e) : e.row = r := by
  rw [sayingME, he] at hm
  exact congrArg Prod.snd (Option.some.inj hm)
theorem says_some (hm : sayingM L.wd (.int m) = some (m, r)) : sayingD L (.int m) ≠ none := fun z => by
  rw [sayingME, z] at hm
  cases hm
theorem use_look (W : WoodAt K H L) (hm : sayingM L.wd (.int m) = some (m, r)) (q : New (.tup [.str r.who, .int r.under, if r.struck then .non else .str r.text, .int r.time]) H Q) : spLook K [.ref L.p, .int m] H Q E :=
  ⟨L, .int m, .int m, rfl, W, .int m, fun e he p H' n s h => q p H' n s (by rw [← says_row hm he]; exact h), fun z => absurd z (says_some hm)⟩
theorem use_votesOf (W : WoodAt K H L) (hm : sayingM L.wd (.int m) = some (m, r)) (q : New (.tup [.int r.ups, .int r.downs]) H Q) : spVotesOf K [.ref L.p, .int m] H Q E :=
  ⟨L, .int m, .int m, rfl, W, .int m, fun e he p H' n s h => q p H' n s (by rw [← says_row hm he]; exact h), fun z => absurd z (says_some hm)⟩
theorem short_name {z : Str} (h : nameZ z = true) : Short (.str z) := by
  unfold nameZ at h
  simp only [Bool.and_eq_true, decide_eq_true_eq] at h
  show z.length < sizeLine
  rw [sizeLine_eq]
  omega
theorem use_standing {z : Str} (W : WoodAt K H L) (hz : nameZ z = true) (q : ∀ H', Same H H' → Q (.int (standingM L.wd z)) H') : spStanding K [.ref L.p, .str z] H Q E :=
  ⟨L, .str z, .str z, rfl, W, .str z, short_name hz, (fun h => absurd (show nameZ z = false from h) (by rw [hz]; decide)), (fun z' h _ H' s => by
    cases h
    exact q H' s)⟩
theorem dp_refu {x : Str} {p : Addr} (h : H p = some (.tup [.str "refused", .str x])) : Dp K H (.ref p) (.tuple [.str "refused", .str x]) := .tup (.inl (.inl h)) (.cons (.str _) (.cons (.str _) .nil))
theorem dp_int2 {x y : Int} {p : Addr} (h : H p = some (.tup [.int x, .int y])) : Dp K H (.ref p) (.tuple [.int x, .int y]) := .tup (.inl (.inl h)) (.cons (.int _) (.cons (.int _) .nil))
end
theorem refu_lk {H H' : Hp} (s : Same H H') : LK H H' := LK.same s
end Vw
namespace Vw
open PySem PySem.Spec PyProof.Rows L2
/-! ### the wood of the law k13: who said what is fixed, votes vary -/
def whoJ (i : Nat) : Str := if i % 3 = 0 then "ann" else if i % 3 = 1 then "bob" else "cy"
def underJ (i : Nat) : Int := if i % 2 = 1 then 1 else 0
def rowJ (i : Nat) (vs : List (Str × Int)) : Row := ⟨whoJ i, underJ i, "x", 0, vs, false⟩
def rowsV (n : Nat) (vt : Int → List (Str × Int)) : Rows := (List.range n).map fun i : Nat => ((i : Int) + 1, rowJ i (vt ((i : Int) + 1)))
theorem rowsV_keys (n : Nat) (vt : Int → List (Str × Int)) : (rowsV n vt).map (·.1) = (List.range n).map fun i : Nat => (i : Int) + 1 := by
  unfold rowsV
  rw [List.map_map]
  rfl
theorem nodup_plus (n : Nat) : ((List.range n).map fun i : Nat => (i : Int) + 1).Nodup := by
  refine List.Pairwise.map _ (fun a b h => ?_) (List.nodup_range (n := n))
  omega
theorem mem_rowsV {n : Nat} {vt : Int → List (Str × Int)} {p : Int × Row} : p ∈ rowsV n vt ↔ ∃ i : Nat, i < n ∧ p = ((i : Int) + 1, rowJ i (vt ((i : Int) + 1))) := by
  unfold rowsV
  simp only [List.mem_map, List.mem_range]
  exact ⟨fun ⟨i, h, e⟩ => ⟨i, h, e.symm⟩, fun ⟨i, h, e⟩ => ⟨i, h, e.symm⟩⟩
theorem findV {n : Nat} {vt : Int → List (Str × Int)} {m : Int} (h1 : 1 ≤ m) (h2 : m ≤ n) : findR (rowsV n vt) m = some (rowJ (m - 1).toNat (vt m)) := by
  refine findR_of (by rw [rowsV_keys]; exact nodup_plus n) (mem_rowsV.mpr ⟨(m - 1).toNat, by omega, ?_⟩)
  have e : (((m - 1).toNat : Nat) : Int) + 1 = m := by omega
  rw [e]
theorem under01 (i : Nat) : underJ i = 0 ∨ (underJ i = 1 ∧ 1 ≤ i) := by
  unfold underJ
  split
  · exact .inr ⟨rfl, by omega⟩
  · exact .inl rfl
theorem wfV (n : Nat) (vt : Int → List (Str × Int)) : Wf (rowsV n vt) where
  nk := by rw [rowsV_keys]; exact nodup_plus n
  pos := fun p hp => by
    obtain ⟨i, hi, rfl⟩ := mem_rowsV.mp hp
    show (0 : Int) < (i : Int) + 1
    omega
  u0 := fun p hp => by
    obtain ⟨i, hi, rfl⟩ := mem_rowsV.mp hp
    show 0 ≤ underJ i
    rcases under01 i with h | ⟨h, _⟩ <;> omega
  ult := fun p hp => by
    obtain ⟨i, hi, rfl⟩ := mem_rowsV.mp hp
    show underJ i < (i : Int) + 1
    rcases under01 i with h | ⟨h, _⟩ <;> omega
  has := fun p hp => by
    obtain ⟨i, hi, rfl⟩ := mem_rowsV.mp hp
    show underJ i = 0 ∨ ∃ r, findR (rowsV n vt) (underJ i) = some r
    rcases under01 i with h | ⟨h, h1⟩
    · exact .inl h
    · exact .inr ⟨_, by rw [h]; exact findV (by omega) (by omega)⟩
theorem above1 {n : Nat} (vt : Int → List (Str × Int)) (h : 1 ≤ n) : aboveR (rowsV n vt) 1 = [0] := by
  rw [(wfV n vt).above (findV (by omega) (by omega))]
  show underJ 0 :: aboveR _ (underJ 0) = _
  rw [show underJ 0 = 0 from rfl, above_zero]
theorem aboveV {n : Nat} (vt : Int → List (Str × Int)) {m : Int} (h1 : 1 ≤ m) (h2 : m ≤ n) : (aboveR (rowsV n vt) m).length ≤ 2 := by
  rw [(wfV n vt).above (findV h1 h2)]
  show (underJ (m - 1).toNat :: aboveR _ (underJ (m - 1).toNat)).length ≤ 2
  rcases under01 (m - 1).toNat with h | ⟨h, h3⟩
  · rw [h, above_zero]
    simp
  · rw [h, above1 vt (by omega)]
    simp
def wdV (n : Nat) (vt : Int → List (Str × Int)) : Wd := ⟨rowsV n vt, n, 0⟩
theorem wdV_rows (n : Nat) (vt : Int → List (Str × Int)) : (wdV n vt).rows = rowsV n vt := rfl
theorem rowsV_len (n : Nat) (vt : Int → List (Str × Int)) : (rowsV n vt).length = n := by
  unfold rowsV
  simp
theorem who_name (i : Nat) : nameZ (whoJ i) = true := by
  unfold whoJ
  split
  · decide +kernel
  · split <;> decide +kernel
theorem rowsV_succ (n : Nat) : rowsV (n + 1) (fun _ => []) = rowsV n (fun _ => []) ++ [((n : Int) + 1, rowJ n [])] := by
  unfold rowsV
  rw [List.range_succ, List.map_append]
  rfl
theorem sayV {n : Nat} (hn : n < 50) : sayM (wdV n fun _ => []) (.str (whoJ n)) (.int (underJ n)) (.str "x") = .ok ((n : Int) + 1, wdV (n + 1) fun _ => []) := by
  have u : underOk (wdV n fun _ => []) (.int (underJ n)) = true := by
    rcases under01 n with h | ⟨h, h1⟩
    · rw [h]
      rfl
    · rw [h]
      have e : (findR (wdV n fun _ => []).rows 1).isSome = true := by
        rw [wdV_rows, findV (by omega) (by omega)]
        rfl
      show (decide ((1 : Int) = 0) || (decide ((1 : Int) ≤ 1) && decide ((1 : Int) ≤ (n : Int)) && (findR (wdV n fun _ => []).rows 1).isSome)) = true
      rw [e, decide_eq_true (show (1 : Int) ≤ n by omega)]
      rfl
  unfold sayM
  rw [if_neg (show ¬ nameOk (.str (whoJ n)) = false by show ¬ nameZ (whoJ n) = false; rw [who_name]; decide), if_neg (by rw [u]; decide), if_neg (by decide +kernel)]
  have hf : ¬ (60 ≤ (wdV n fun _ => []).rows.length ∨ (underJ n ≠ 0 ∧ 8 ≤ deepI (wdV n fun _ => []).rows (underJ n) + 1)) := by
    rw [wdV_rows, rowsV_len]
    rcases under01 n with h | ⟨h, h1⟩
    · rw [h]
      simp
      omega
    · rw [h]
      have e : deepI (rowsV n fun _ => []) 1 = 0 := by
        unfold deepI
        rw [above1 _ h1]
        rfl
      rw [e]
      omega
  dsimp only
  rw [if_neg hf]
  unfold wdV
  rw [rowsV_succ]
  rw [Int.natCast_add]
  rfl
theorem sortedV (n : Nat) : ((List.range n).map fun i : Nat => (i : Int) + 1).Pairwise (· ≤ ·) := by
  refine List.Pairwise.map _ (fun a b h => ?_) (List.pairwise_lt_range (n := n))
  omega
/-! ### votes by the law's own -/
abbrev Last := List ((Int × Str) × Int)
def encK (k : Int × Str) : List Key := [Sum.inl k.1, Sum.inr k.2]
def encL (e : (Int × Str) × Int) : List Key × V := (encK e.1, .int e.2)
theorem encK_inj {a b : Int × Str} (h : encK a = encK b) : a = b := by
  unfold encK at h
  simp only [List.cons.injEq, Sum.inl.injEq, Sum.inr.injEq, and_true] at h
  exact Prod.ext h.1 h.2
def putL (ls : Last) (k : Int × Str) (w : Int) : Last := if (ls.any fun e => decide (e.1 = k)) = true then ls.map (fun e => if e.1 = k then (e.1, w) else e) else ls ++ [(k, w)]
def valL (ls : Last) (k : Int × Str) : Int := ((ls.find? fun e => decide (e.1 = k)).map (·.2)).getD 0
theorem enc_dec (e : (Int × Str) × Int) (k : Int × Str) : decide ((encL e).1 = encK k) = decide (e.1 = k) := by
  by_cases h : e.1 = k
  · rw [decide_eq_true h, decide_eq_true]
    show encK e.1 = encK k
    rw [h]
  · rw [decide_eq_false h, decide_eq_false]
    exact fun z => h (encK_inj z)
theorem putL_enc (ls : Last) (k : Int × Str) (w : Int) : putK (ls.map encL) (encK k) (.int w) = (putL ls k w).map encL := by
  unfold putK putL
  have e : ((ls.map encL).any fun kv => decide (kv.1 = encK k)) = ls.any fun e => decide (e.1 = k) := by
    rw [List.any_map]
    congr 1
    funext e
    exact enc_dec e k
  rw [e]
  split
  · rw [List.map_map, List.map_map]
    refine List.map_congr_left fun e _ => ?_
    show (if (encL e).1 = encK k then ((encL e).1, V.int w) else encL e) = encL (if e.1 = k then (e.1, w) else e)
    by_cases h : e.1 = k
    · rw [if_pos h, if_pos (show (encL e).1 = encK k by show encK e.1 = encK k; rw [h])]
      rfl
    · rw [if_neg h, if_neg (show ¬ (encL e).1 = encK k from fun z => h (encK_inj z))]
  · rw [List.map_append]
    rfl
theorem valL_enc (ls : Last) (k : Int × Str) : (valV (ls.map encL) (encK k)).getD (.int 0) = .int (valL ls k) := by
  unfold valV valL
  rw [List.find?_map]
  have e : ((fun kv : List Key × V => decide (kv.1 = encK k)) ∘ encL) = fun e => decide (e.1 = k) := by
    funext e
    exact enc_dec e k
  rw [e]
  cases ls.find? fun e => decide (e.1 = k) <;> rfl
theorem putL_perm {ls : Last} {k : Int × Str} {w : Int} (nd : (ls.map (·.1)).Nodup) : (putL ls k w).Perm (ls.filter (fun e => decide (e.1 ≠ k)) ++ [(k, w)]) := by
  unfold putL
  induction ls with
  | nil => exact List.Perm.refl _
  | cons a r ih =>
    rw [List.map_cons, List.nodup_cons] at nd
    by_cases h : a.1 = k
    · have no : ∀ e ∈ r, e.1 ≠ k := fun e he z => nd.1 (List.mem_map.mpr ⟨e, he, by rw [z, h]⟩)
      have f1 : r.filter (fun e => decide (e.1 ≠ k)) = r := List.filter_eq_self.mpr fun e he => decide_eq_true (no e he)
      have f2 : r.map (fun e => if e.1 = k then (e.1, w) else e) = r := by
        have : r.map (fun e => if e.1 = k then (e.1, w) else e) = r.map id := List.map_congr_left fun e he => by rw [if_neg (no e he)]; rfl
        rw [this, List.map_id]
      rw [if_pos (by simp [h]), List.map_cons, if_pos h, f2, List.filter_cons_of_neg (by simp [h]), f1, h]
      exact (List.perm_append_singleton (k, w) r).symm
    · rw [List.filter_cons_of_pos (by simp [h]), List.any_cons, decide_eq_false h, Bool.false_or]
      have q := ih nd.2
      split at q
      · rename_i c
        rw [if_pos c, List.map_cons, if_neg h]
        exact q.cons a
      · rename_i c
        rw [if_neg c]
        exact q.cons a
theorem putL_nodup {ls : Last} {k : Int × Str} {w : Int} (nd : (ls.map (·.1)).Nodup) : ((putL ls k w).map (·.1)).Nodup := by
  have p := (putL_perm (k := k) (w := w) nd).map (·.1)
  refine p.symm.nodup_iff.mp ?_
  rw [List.map_append, List.map_cons, List.map_nil]
  refine List.nodup_append.mpr ⟨nd.sublist (List.filter_sublist.map _), by simp, fun a ha b hb => ?_⟩
  obtain ⟨e, he, rfl⟩ := List.mem_map.mp ha
  have eb : b = k := by simpa using hb
  subst eb
  have := (List.mem_filter.mp he).2
  simpa using this
/-- the last votes on m, by names -/
def named (m : Int) (ls : Last) : List (Str × Int) := (ls.filter fun e => decide (e.1.1 = m)).map fun e => (e.1.2, e.2)
def nz (l : List (Str × Int)) : List (Str × Int) := l.filter fun p => decide (p.2 ≠ 0)
theorem named_perm {ls ks : Last} (m : Int) (p : ls.Perm ks) : (named m ls).Perm (named m ks) := (p.filter _).map _
theorem named_other {ls : Last} {m m' : Int} {b : Str} {w : Int} (nd : (ls.map (·.1)).Nodup) (h : m' ≠ m) : (named m' (putL ls (m, b) w)).Perm (named m' ls) := by
  refine (named_perm m' (putL_perm nd)).trans ?_
  unfold named
  rw [List.filter_append, List.filter_filter, List.filter_cons_of_neg (by simpa using fun z => h z.symm), List.filter_nil, List.append_nil]
  have e : ls.filter (fun e => decide (e.1.1 = m') && decide (e.1 ≠ (m, b))) = ls.filter fun e => decide (e.1.1 = m') := by
    refine List.filter_congr fun e _ => ?_
    by_cases h1 : e.1.1 = m'
    · have h2 : e.1 ≠ (m, b) := fun z => h (by rw [← h1, z])
      rw [decide_eq_true h1, decide_eq_true h2]
      rfl
    · rw [decide_eq_false h1]
      rfl
  rw [e]
theorem named_here {ls : Last} {m : Int} {b : Str} {w : Int} (nd : (ls.map (·.1)).Nodup) : (named m (putL ls (m, b) w)).Perm ((named m ls).filter (fun p => decide (p.1 ≠ b)) ++ [(b, w)]) := by
  refine (named_perm m (putL_perm nd)).trans ?_
  unfold named
  rw [List.filter_append, List.filter_filter, List.filter_cons_of_pos (by simp), List.filter_nil, List.map_append, List.filter_map, List.filter_filter]
  have e : ls.filter (fun e => decide (e.1.1 = m) && decide (e.1 ≠ (m, b))) = ls.filter fun e => ((fun p : Str × Int => decide (p.1 ≠ b)) ∘ fun e : (Int × Str) × Int => (e.1.2, e.2)) e && decide (e.1.1 = m) := by
    refine List.filter_congr fun e _ => ?_
    show (decide (e.1.1 = m) && decide (e.1 ≠ (m, b))) = (decide (e.1.2 ≠ b) && decide (e.1.1 = m))
    by_cases h1 : e.1.1 = m
    · by_cases h2 : e.1.2 = b
      · have h3 : e.1 = (m, b) := Prod.ext h1 h2
        simp [h1, h2, h3]
      · have h3 : e.1 ≠ (m, b) := fun z => h2 (by rw [z])
        simp [h1, h2, h3]
    · simp [h1]
  rw [e]
  exact List.Perm.refl _
structure VInv (n : Nat) (vt : Int → List (Str × Int)) (ls : Last) : Prop where
  nd : (ls.map (·.1)).Nodup
  vals : ∀ e ∈ ls, e.2 = 1 ∨ e.2 = -1 ∨ e.2 = 0
  same : ∀ m, (vt m).Perm (nz (named m ls))
def updV (vt : Int → List (Str × Int)) (m : Int) (v : List (Str × Int)) : Int → List (Str × Int) := fun i => if i = m then v else vt i
theorem nz_perm {a b : List (Str × Int)} (p : a.Perm b) : (nz a).Perm (nz b) := p.filter _
theorem VInv.vote {n : Nat} {vt : Int → List (Str × Int)} {ls : Last} (V : VInv n vt ls) {m : Int} {b : Str} {w : Int} (hw : w = 1 ∨ w = -1 ∨ w = 0) : VInv n (updV vt m (votesM (vt m) b w)) (putL ls (m, b) w) := by
  refine ⟨putL_nodup V.nd, fun e he => ?_, fun i => ?_⟩
  · rcases List.mem_append.mp ((putL_perm V.nd).mem_iff.mp he) with h | h
    · exact V.vals e (List.mem_filter.mp h).1
    · have : e = ((m, b), w) := by simpa using h
      rw [this]
      exact hw
  · unfold updV
    by_cases hi : i = m
    · rw [if_pos hi, hi]
      refine List.Perm.trans ?_ (nz_perm (named_here V.nd)).symm
      unfold votesM
      have p := (V.same m).filter fun p => decide (p.1 ≠ b)
      have e : (nz (named m ls)).filter (fun p => decide (p.1 ≠ b)) = nz ((named m ls).filter fun p => decide (p.1 ≠ b)) := by
        unfold nz
        rw [List.filter_filter, List.filter_filter]
        exact List.filter_congr fun _ _ => Bool.and_comm _ _
      rw [e] at p
      have e2 : nz ((named m ls).filter (fun p => decide (p.1 ≠ b)) ++ [(b, w)]) = nz ((named m ls).filter fun p => decide (p.1 ≠ b)) ++ (if w = 0 then [] else [(b, w)]) := by
        unfold nz
        rw [List.filter_append]
        by_cases h0 : w = 0 <;> simp [h0]
      rw [e2]
      dsimp only
      split
      · rw [List.append_nil]
        exact p
      · exact p.append_right _
    · rw [if_neg hi]
      exact (V.same i).trans (nz_perm (named_other V.nd hi)).symm
/-! ### counts, sums -/
def waysM (m : Int) (ls : Last) : List Int := (named m ls).map (·.2)
def upsV (l : List (Str × Int)) : Int := ((l.filter fun p => decide (0 < p.2)).length : Nat)
def downsV (l : List (Str × Int)) : Int := ((l.filter fun p => decide (p.2 < 0)).length : Nat)
theorem named_vals {ls : Last} {m : Int} (h : ∀ e ∈ ls, e.2 = 1 ∨ e.2 = -1 ∨ e.2 = 0) : ∀ p ∈ named m ls, p.2 = 1 ∨ p.2 = -1 ∨ p.2 = 0 := fun p hp => by
  obtain ⟨e, he, rfl⟩ := List.mem_map.mp hp
  exact h e (List.mem_filter.mp he).1
theorem count_ups : ∀ {l : List (Str × Int)}, (∀ p ∈ l, p.2 = 1 ∨ p.2 = -1 ∨ p.2 = 0) → upsV (nz l) = (((l.map (·.2)).count 1 : Nat) : Int) ∧ downsV (nz l) = (((l.map (·.2)).count (-1) : Nat) : Int) ∧ upsV (nz l) - downsV (nz l) = (l.map (·.2)).sum
  | [], _ => ⟨rfl, rfl, rfl⟩
  | p :: r, h => by
    obtain ⟨h1, h2, h3⟩ := count_ups (l := r) fun q hq => h q (List.mem_cons_of_mem _ hq)
    obtain ⟨b, w⟩ := p
    have hw : w = 1 ∨ w = -1 ∨ w = 0 := h (b, w) List.mem_cons_self
    unfold upsV downsV nz at *
    rcases hw with e | e | e
    all_goals subst e; simp [List.filter_cons, List.count_cons] at h1 h2 h3 ⊢; omega
theorem ups_perm {a b : List (Str × Int)} (p : a.Perm b) : upsV a = upsV b ∧ downsV a = downsV b := by
  unfold upsV downsV
  exact ⟨congrArg _ (p.filter _).length_eq, congrArg _ (p.filter _).length_eq⟩
theorem VInv.counts {n : Nat} {vt : Int → List (Str × Int)} {ls : Last} (V : VInv n vt ls) (m : Int) : upsV (vt m) = (((waysM m ls).count 1 : Nat) : Int) ∧ downsV (vt m) = (((waysM m ls).count (-1) : Nat) : Int) ∧ upsV (vt m) - downsV (vt m) = (waysM m ls).sum := by
  obtain ⟨h1, h2⟩ := ups_perm (V.same m)
  rw [h1, h2]
  exact count_ups (named_vals V.vals)
theorem sum_perm {a b : List Int} (p : a.Perm b) : a.sum = b.sum := by
  induction p with
  | nil => rfl
  | cons x _ ih => simp [ih]
  | swap x y l => simp only [List.sum_cons]; omega
  | trans _ _ h1 h2 => exact h1.trans h2
theorem val_sum {ls : Last} (nd : (ls.map (·.1)).Nodup) (m : Int) (b : Str) : (waysM m ls).sum = (((named m ls).filter fun p => decide (p.1 ≠ b)).map (·.2)).sum + valL ls (m, b) := by
  unfold waysM named valL
  induction ls with
  | nil => rfl
  | cons a r ih =>
    rw [List.map_cons, List.nodup_cons] at nd
    have q := ih nd.2
    by_cases h : a.1 = (m, b)
    · have no : ∀ e ∈ r, e.1 ≠ (m, b) := fun e he z => nd.1 (List.mem_map.mpr ⟨e, he, by rw [z, h]⟩)
      have f0 : r.find? (fun e => decide (e.1 = (m, b))) = none := List.find?_eq_none.mpr fun e he => by simpa using no e he
      rw [f0] at q
      have h1 : a.1.1 = m := by rw [h]
      have h2 : a.1.2 = b := by rw [h]
      have g0 : (a :: r).find? (fun e => decide (e.1 = (m, b))) = some a := by simp [List.find?_cons, h]
      have g1 : (a :: r).filter (fun e => decide (e.1.1 = m)) = a :: r.filter fun e => decide (e.1.1 = m) := by simp [List.filter_cons, h1]
      rw [g0, g1, List.map_cons]
      have g2 : ((a.1.2, a.2) :: (r.filter fun e => decide (e.1.1 = m)).map fun e => (e.1.2, e.2)).filter (fun p => decide (p.1 ≠ b)) = (((r.filter fun e => decide (e.1.1 = m)).map fun e => (e.1.2, e.2)).filter fun p => decide (p.1 ≠ b)) := List.filter_cons_of_neg (by simpa using h2)
      rw [g2, List.map_cons, List.sum_cons, q]
      show a.2 + (_ + 0) = _ + a.2
      omega
    · have f1 : (a :: r).find? (fun e => decide (e.1 = (m, b))) = r.find? fun e => decide (e.1 = (m, b)) := by simp [List.find?_cons, h]
      rw [f1]
      by_cases h1 : a.1.1 = m
      · have h2 : a.1.2 ≠ b := fun z => h (Prod.ext h1 z)
        have g1 : (a :: r).filter (fun e => decide (e.1.1 = m)) = a :: r.filter fun e => decide (e.1.1 = m) := by simp [List.filter_cons, h1]
        rw [g1, List.map_cons]
        have g2 : ((a.1.2, a.2) :: (r.filter fun e => decide (e.1.1 = m)).map fun e => (e.1.2, e.2)).filter (fun p => decide (p.1 ≠ b)) = (a.1.2, a.2) :: (((r.filter fun e => decide (e.1.1 = m)).map fun e => (e.1.2, e.2)).filter fun p => decide (p.1 ≠ b)) := List.filter_cons_of_pos (by simpa using h2)
        rw [g2, List.map_cons, List.map_cons, List.sum_cons, List.sum_cons, q]
        omega
      · simp only [List.filter_cons, h1, decide_false]
        exact q
theorem VInv.sum {n : Nat} {vt : Int → List (Str × Int)} {ls : Last} (V : VInv n vt ls) (m : Int) (b : Str) (w : Int) : (waysM m (putL ls (m, b) w)).sum = (waysM m ls).sum + (w - valL ls (m, b)) := by
  rw [val_sum V.nd m b]
  have p := (named_here (b := b) (w := w) (m := m) V.nd).map (·.2)
  unfold waysM
  rw [sum_perm p, List.map_append, List.sum_append]
  simp
  omega
/-! ### standings -/
def stand (n : Nat) (vt : Int → List (Str × Int)) (who : Str) : Int := (((List.range n).filter fun i => decide (whoJ i = who)).map fun i : Nat => upsV (vt ((i : Int) + 1)) - downsV (vt ((i : Int) + 1))).sum
theorem standV (n : Nat) (vt : Int → List (Str × Int)) (who : Str) : standingM (wdV n vt) who = stand n vt who := by
  unfold standingM stand
  rw [wdV_rows]
  unfold rowsV
  rw [List.filter_map, List.map_map]
  have e : ((fun p : Int × Row => decide (p.2.who = who) && !p.2.struck) ∘ fun i : Nat => ((i : Int) + 1, rowJ i (vt ((i : Int) + 1)))) = fun i => decide (whoJ i = who) := by
    funext i
    show (decide (whoJ i = who) && !false) = _
    simp
  rw [e]
  rfl
theorem stand_upd {n : Nat} {vt : Int → List (Str × Int)} {m : Int} {v : List (Str × Int)} (h1 : 1 ≤ m) (h2 : m ≤ n) : stand n (updV vt m v) (whoJ (m - 1).toNat) = stand n vt (whoJ (m - 1).toNat) + ((upsV v - downsV v) - (upsV (vt m) - downsV (vt m))) := by
  unfold stand
  induction n with
  | zero => omega
  | succ n ih =>
    rw [List.range_succ, List.filter_append, List.map_append, List.map_append, List.sum_append, List.sum_append]
    by_cases e : m = (n : Int) + 1
    · have en : (m - 1).toNat = n := by omega
      have same : ((List.range n).filter fun i => decide (whoJ i = whoJ (m - 1).toNat)).map (fun i : Nat => upsV (updV vt m v ((i : Int) + 1)) - downsV (updV vt m v ((i : Int) + 1))) = ((List.range n).filter fun i => decide (whoJ i = whoJ (m - 1).toNat)).map fun i : Nat => upsV (vt ((i : Int) + 1)) - downsV (vt ((i : Int) + 1)) := by
        refine List.map_congr_left fun i hi => ?_
        have : i < n := List.mem_range.mp (List.mem_filter.mp hi).1
        have ne : ((i : Int) + 1) ≠ m := by omega
        unfold updV
        rw [if_neg ne]
      rw [same, en, List.filter_cons_of_pos (by simp)]
      simp only [List.filter_nil, List.map_cons, List.map_nil, List.sum_cons, List.sum_nil]
      have eu : updV vt m v ((n : Int) + 1) = v := by
        unfold updV
        rw [if_pos e.symm]
      rw [eu, ← e]
      omega
    · have q := ih (by omega)
      rw [q]
      have eu : ∀ i : Nat, i ∈ ([n].filter fun i => decide (whoJ i = whoJ (m - 1).toNat)) → updV vt m v ((i : Int) + 1) = vt ((i : Int) + 1) := fun i hi => by
        have : i = n := by simpa using (List.mem_filter.mp hi).1
        subst this
        unfold updV
        rw [if_neg (fun z => e z.symm)]
      have e3 : ([n].filter fun i => decide (whoJ i = whoJ (m - 1).toNat)).map (fun i : Nat => upsV (updV vt m v ((i : Int) + 1)) - downsV (updV vt m v ((i : Int) + 1))) = ([n].filter fun i => decide (whoJ i = whoJ (m - 1).toNat)).map fun i : Nat => upsV (vt ((i : Int) + 1)) - downsV (vt ((i : Int) + 1)) := List.map_congr_left fun i hi => by rw [eu i hi]
      rw [e3]
      omega
/-! ### deeds -/
theorem setV {n : Nat} {vt : Int → List (Str × Int)} {m : Int} {v : List (Str × Int)} : setR (rowsV n vt) m { rowJ (m - 1).toNat (vt m) with votes := v } = rowsV n (updV vt m v) := by
  unfold setR rowsV
  rw [List.map_map]
  refine List.map_congr_left fun i hi => ?_
  show (if (i : Int) + 1 = m then (m, _) else ((i : Int) + 1, rowJ i (vt ((i : Int) + 1)))) = ((i : Int) + 1, rowJ i (updV vt m v ((i : Int) + 1)))
  by_cases e : (i : Int) + 1 = m
  · have en : (m - 1).toNat = i := by omega
    rw [if_pos e, en, e]
    unfold updV
    rw [if_pos rfl]
    rfl
  · rw [if_neg e]
    unfold updV
    rw [if_neg e]
theorem sayingV {n : Nat} {vt : Int → List (Str × Int)} {m : Int} (h1 : 1 ≤ m) (h2 : m ≤ n) : sayingM (wdV n vt) (.int m) = some (m, rowJ (m - 1).toNat (vt m)) := by
  show (if 1 ≤ m ∧ m ≤ (n : Int) then (findR (rowsV n vt) m).map fun r => (m, r) else none) = _
  rw [if_pos ⟨h1, h2⟩, findV h1 h2]
  rfl
theorem voteV {n : Nat} {vt : Int → List (Str × Int)} {m w : Int} {b : Str} (h1 : 1 ≤ m) (h2 : m ≤ n) (hb : nameZ b = true) (hw : w = 1 ∨ w = -1 ∨ w = 0) :
    voteM (wdV n vt) (.int m) (.str b) (.int w) = if whoJ (m - 1).toNat = b then .error .yours else .ok (upsV (votesM (vt m) b w) - downsV (votesM (vt m) b w), wdV n (updV vt m (votesM (vt m) b w))) := by
  unfold voteM
  rw [sayingV h1 h2]
  have c : isCount (.int w) (-1) 1 = true := by
    show (decide ((-1 : Int) ≤ w) && decide (w ≤ 1)) = true
    simp
    omega
  dsimp only
  rw [if_neg (show ¬ nameOk (.str b) = false by show ¬ nameZ b = false; rw [hb]; decide), if_neg (by rw [c]; decide)]
  by_cases e : whoJ (m - 1).toNat = b
  · rw [if_pos e, if_pos (.inl e)]
  · rw [if_neg e, if_neg (fun z => z.elim e (fun z => by cases z)), wdV_rows, setV]
    rfl
theorem goodV {n : Nat} (vt : Int → List (Str × Int)) (h : n ≤ 60) : Good (wdV n vt) := ⟨wfV n vt, fun p hp => by
  obtain ⟨i, hi, rfl⟩ := mem_rowsV.mp hp
  show (i : Int) + 1 ≤ n
  omega, fun p hp => by
  obtain ⟨i, hi, rfl⟩ := mem_rowsV.mp hp
  have := aboveV (n := n) vt (m := (i : Int) + 1) (by omega) (by omega)
  show (aboveR (rowsV n vt) ((i : Int) + 1)).length ≤ 8
  omega, by rw [wdV_rows, rowsV_len]; exact h⟩
/-! ### the end: one more said under 2, then 2 is struck -/
def rowZ : Row := ⟨"zz", 2, "y", 0, [], false⟩
def rowsE (n : Nat) (vt : Int → List (Str × Int)) : Rows := rowsV n vt ++ [((n : Int) + 1, rowZ)]
theorem sayE {n : Nat} {vt : Int → List (Str × Int)} (h2 : 2 ≤ n) (hn : n < 50) : sayM (wdV n vt) (.str "zz") (.int 2) (.str "y") = .ok ((n : Int) + 1, ⟨rowsE n vt, (n : Int) + 1, 0⟩) := by
  have e : findR (wdV n vt).rows 2 = some (rowJ 1 (vt 2)) := by
    rw [wdV_rows, findV (by omega) (by omega)]
    rfl
  have u : underOk (wdV n vt) (.int 2) = true := by
    show (decide ((2 : Int) = 0) || (decide ((1 : Int) ≤ 2) && decide ((2 : Int) ≤ (n : Int)) && (findR (wdV n vt).rows 2).isSome)) = true
    rw [e, decide_eq_true (show (2 : Int) ≤ n by omega)]
    rfl
  unfold sayM
  rw [if_neg (by decide +kernel), if_neg (by rw [u]; decide), if_neg (by decide +kernel)]
  have hf : ¬ (60 ≤ (wdV n vt).rows.length ∨ ((2 : Int) ≠ 0 ∧ 8 ≤ deepI (wdV n vt).rows 2 + 1)) := by
    have a := aboveV (n := n) vt (m := 2) (by omega) (by omega)
    rw [wdV_rows, rowsV_len]
    unfold deepI
    omega
  dsimp only
  rw [if_neg hf]
  rfl
theorem findE_old {n : Nat} {vt : Int → List (Str × Int)} {m : Int} (h1 : 1 ≤ m) (h2 : m ≤ n) : findR (rowsE n vt) m = some (rowJ (m - 1).toNat (vt m)) := by
  have e := findV (n := n) (vt := vt) h1 h2
  unfold findR at e ⊢
  unfold rowsE
  rw [List.find?_append]
  cases q : (rowsV n vt).find? fun p => decide (p.1 = m) with
  | none => rw [q] at e; cases e
  | some p => rw [q] at e; exact e
theorem keysE (n : Nat) (vt : Int → List (Str × Int)) : (rowsE n vt).map (·.1) = (List.range (n + 1)).map fun i : Nat => (i : Int) + 1 := by
  unfold rowsE
  rw [List.map_append, rowsV_keys, List.range_succ, List.map_append]
  rfl
theorem findE_new {n : Nat} {vt : Int → List (Str × Int)} : findR (rowsE n vt) ((n : Int) + 1) = some rowZ :=
  findR_of (by rw [keysE]; exact nodup_plus _) (List.mem_append_right _ List.mem_cons_self)
theorem wfE {n : Nat} (vt : Int → List (Str × Int)) (h2 : 2 ≤ n) : Wf (rowsE n vt) where
  nk := by rw [keysE]; exact nodup_plus _
  pos := fun p hp => by
    rcases List.mem_append.mp hp with h | h
    · exact (wfV n vt).pos p h
    · have : p = ((n : Int) + 1, rowZ) := by simpa using h
      rw [this]
      show (0 : Int) < (n : Int) + 1
      omega
  u0 := fun p hp => by
    rcases List.mem_append.mp hp with h | h
    · exact (wfV n vt).u0 p h
    · have : p = ((n : Int) + 1, rowZ) := by simpa using h
      rw [this]
      show (0 : Int) ≤ 2
      decide
  ult := fun p hp => by
    rcases List.mem_append.mp hp with h | h
    · exact (wfV n vt).ult p h
    · have : p = ((n : Int) + 1, rowZ) := by simpa using h
      rw [this]
      show (2 : Int) < (n : Int) + 1
      omega
  has := fun p hp => by
    rcases List.mem_append.mp hp with h | h
    · obtain ⟨i, hi, rfl⟩ := mem_rowsV.mp h
      rcases under01 i with z | ⟨z, h1⟩
      · exact .inl z
      · exact .inr ⟨_, by show findR _ (underJ i) = _; rw [z]; exact findE_old (by omega) (by omega)⟩
    · have : p = ((n : Int) + 1, rowZ) := by simpa using h
      rw [this]
      exact .inr ⟨_, findE_old (m := 2) (by omega) (by omega)⟩
def row2 (vt : Int → List (Str × Int)) : Row := { rowJ 1 (vt 2) with struck := true }
def rowsS (n : Nat) (vt : Int → List (Str × Int)) : Rows := setR (rowsE n vt) 2 (row2 vt)
theorem wfS {n : Nat} (vt : Int → List (Str × Int)) (h2 : 2 ≤ n) : Wf (rowsS n vt) := (wfE vt h2).set (findE_old (m := 2) (by omega) (by omega)) rfl
theorem findS_2 {n : Nat} {vt : Int → List (Str × Int)} (h2 : 2 ≤ n) : findR (rowsS n vt) 2 = some (row2 vt) := findR_set (wfE vt h2).nk (findE_old (m := 2) (by omega) (by omega))
theorem findS_new {n : Nat} {vt : Int → List (Str × Int)} (h2 : 2 ≤ n) : findR (rowsS n vt) ((n : Int) + 1) = some rowZ := by
  unfold rowsS
  rw [findR_setR, if_neg (by omega), findE_new]
theorem findS_1 {n : Nat} {vt : Int → List (Str × Int)} (h2 : 2 ≤ n) : findR (rowsS n vt) 1 = some (rowJ 0 (vt 1)) := by
  unfold rowsS
  rw [findR_setR, if_neg (by omega), findE_old (by omega) (by omega)]
  rfl
theorem ownE2 {n : Nat} {vt : Int → List (Str × Int)} (h2 : 2 ≤ n) : ownM ⟨rowsE n vt, (n : Int) + 1, 0⟩ (.int 2) (.str "bob") = .ok (2, rowJ 1 (vt 2)) := by
  have e : sayingM ⟨rowsE n vt, (n : Int) + 1, 0⟩ (.int 2) = some (2, rowJ 1 (vt 2)) := by
    show (if 1 ≤ (2 : Int) ∧ (2 : Int) ≤ (n : Int) + 1 then (findR (rowsE n vt) 2).map fun r => ((2 : Int), r) else none) = _
    rw [if_pos ⟨by omega, by omega⟩, findE_old (by omega) (by omega)]
    rfl
  unfold ownM
  rw [e]
  dsimp only
  rw [if_neg (by decide +kernel), if_pos ⟨by show isS (.str "bob") (whoJ 1) = true; decide +kernel, rfl⟩]
theorem strikeE {n : Nat} {vt : Int → List (Str × Int)} (h2 : 2 ≤ n) : strikeM ⟨rowsE n vt, (n : Int) + 1, 0⟩ (.int 2) (.str "bob") = .ok (0, ⟨rowsS n vt, (n : Int) + 1, 0⟩) := by
  have g : goneR (rowsS n vt) 2 = (rowsS n vt, 0) := by
    rw [goneR, findS_2 h2]
    dsimp only
    rw [dif_neg]
    rintro ⟨_, _, _, _, z⟩
    have m : ((n : Int) + 1) ∈ repliesR (rowsS n vt) 2 := mem_replies.mpr ⟨rowZ, findR_mem (findS_new h2), rfl⟩
    rw [z] at m
    cases m
  unfold strikeM
  rw [ownE2 h2]
  show Except.ok ((goneR (rowsS n vt) 2).2, ({ rows := (goneR (rowsS n vt) 2).1, came := (n : Int) + 1, clock := 0 } : Wd)) = _
  rw [g]
theorem sayingS {n : Nat} {vt : Int → List (Str × Int)} (h2 : 2 ≤ n) : sayingM ⟨rowsS n vt, (n : Int) + 1, 0⟩ (.int 2) = some (2, row2 vt) := by
  show (if 1 ≤ (2 : Int) ∧ (2 : Int) ≤ (n : Int) + 1 then (findR (rowsS n vt) 2).map fun r => ((2 : Int), r) else none) = _
  rw [if_pos ⟨by omega, by omega⟩, findS_2 h2]
  rfl
theorem voteS {n : Nat} {vt : Int → List (Str × Int)} (h2 : 2 ≤ n) : voteM ⟨rowsS n vt, (n : Int) + 1, 0⟩ (.int 2) (.str "zz") (.int 1) = .error .yours := by
  unfold voteM
  rw [sayingS h2]
  dsimp only
  rw [if_neg (by decide +kernel), if_neg (by decide +kernel), if_pos (.inr rfl)]
theorem lenS (n : Nat) (vt : Int → List (Str × Int)) : (rowsS n vt).length = n + 1 := by
  unfold rowsS setR rowsE
  rw [List.length_map, List.length_append, rowsV_len]
  rfl
theorem keysS (n : Nat) (vt : Int → List (Str × Int)) : (rowsS n vt).map (·.1) = (List.range (n + 1)).map fun i : Nat => (i : Int) + 1 := by
  unfold rowsS
  rw [setR_keys, keysE]
theorem above2S {n : Nat} (vt : Int → List (Str × Int)) (h2 : 2 ≤ n) : aboveR (rowsS n vt) 2 = [1, 0] := by
  rw [(wfS vt h2).above (findS_2 h2)]
  show (1 : Int) :: aboveR (rowsS n vt) 1 = _
  rw [(wfS vt h2).above (findS_1 h2)]
  show (1 : Int) :: (0 : Int) :: aboveR (rowsS n vt) 0 = _
  rw [above_zero]
theorem belowS {n : Nat} (vt : Int → List (Str × Int)) (h2 : 2 ≤ n) : ((n : Int) + 1) ∈ beneathR (rowsS n vt) 2 := by
  refine mem_beneath.mpr ⟨⟨rowZ, findR_mem (findS_new h2)⟩, ?_⟩
  rw [(wfS vt h2).above (findS_new h2)]
  exact List.mem_cons_self
theorem aboveS {n : Nat} (vt : Int → List (Str × Int)) (h2 : 2 ≤ n) {m : Int} {r : Row} (h : findR (rowsS n vt) m = some r) (hm : m ≤ n) : (aboveR (rowsS n vt) m).length ≤ 2 := by
  have F := wfS vt h2
  obtain ⟨_, m0, _, _⟩ := F.up h
  have e : r.under = underJ (m - 1).toNat := by
    unfold rowsS at h
    rw [findR_setR] at h
    by_cases em : m = 2
    · subst em
      rw [if_pos rfl, findE_old (by omega) (by omega)] at h
      cases h
      rfl
    · rw [if_neg em, findE_old (by omega) hm] at h
      cases h
      rfl
  rw [F.above h, e]
  rcases under01 (m - 1).toNat with z | ⟨z, h3⟩
  · rw [z, above_zero]
    simp
  · rw [z, F.above (findS_1 h2)]
    show ((1 : Int) :: (0 : Int) :: aboveR (rowsS n vt) 0).length ≤ 2
    rw [above_zero]
    simp
theorem goodS {n : Nat} (vt : Int → List (Str × Int)) (h2 : 2 ≤ n) (hn : n < 50) : Good ⟨rowsS n vt, (n : Int) + 1, 0⟩ := ⟨wfS vt h2, fun p hp => by
  have : p.1 ∈ (rowsS n vt).map (·.1) := List.mem_map.mpr ⟨p, hp, rfl⟩
  rw [keysS] at this
  obtain ⟨i, hi, e⟩ := List.mem_map.mp this
  have := List.mem_range.mp hi
  show p.1 ≤ (n : Int) + 1
  omega, fun p hp => by
  have h := findR_of (wfS vt h2).nk (n := p.1) (r := p.2) hp
  show (aboveR (rowsS n vt) p.1).length ≤ 8
  by_cases hm : p.1 ≤ n
  · have := aboveS vt h2 h hm
    omega
  · have : p.1 ∈ (rowsS n vt).map (·.1) := List.mem_map.mpr ⟨p, hp, rfl⟩
    rw [keysS] at this
    obtain ⟨i, hi, e⟩ := List.mem_map.mp this
    have := List.mem_range.mp hi
    have en : p.1 = (n : Int) + 1 := by omega
    rw [en, (wfS vt h2).above (findS_new h2)]
    show ((2 : Int) :: aboveR (rowsS n vt) 2).length ≤ 8
    rw [above2S vt h2]
    decide, by show (rowsS n vt).length ≤ 60; rw [lenS]; omega⟩
theorem putL_len {ls : Last} {k : Int × Str} {w : Int} (nd : (ls.map (·.1)).Nodup) : (putL ls k w).length ≤ ls.length + 1 := by
  rw [(putL_perm nd).length_eq, List.length_append]
  have := List.length_filter_le (fun e : (Int × Str) × Int => decide (e.1 ≠ k)) ls
  simp only [List.length_cons, List.length_nil]
  omega
theorem VInv.len {n : Nat} {vt : Int → List (Str × Int)} {ls : Last} (V : VInv n vt ls) (m : Int) : (vt m).length ≤ ls.length := by
  rw [(V.same m).length_eq]
  unfold nz named
  refine Nat.le_trans (List.length_filter_le _ _) ?_
  rw [List.length_map]
  exact List.length_filter_le _ _
def fW (m : Int) (e : (Int × Str) × Int) : Option V := if e.1.1 = m then some (.int e.2) else none
theorem fW_ways (m : Int) (ls : Last) : ls.filterMap (fW m) = (waysM m ls).map V.int := by
  unfold waysM named
  induction ls with
  | nil => rfl
  | cons a r ih =>
    by_cases h : a.1.1 = m
    · rw [List.filterMap_cons_some (b := .int a.2) (by unfold fW; rw [if_pos h]), ih, List.filter_cons_of_pos (by simpa using h)]
      rfl
    · rw [List.filterMap_cons_none (by unfold fW; rw [if_neg h]), ih, List.filter_cons_of_neg (by simpa using h)]
theorem valV_mem {ls : Last} (nd : (ls.map (·.1)).Nodup) {e : (Int × Str) × Int} (he : e ∈ ls) : valV (ls.map encL) (encK e.1) = some (.int e.2) := by
  induction ls with
  | nil => cases he
  | cons a r ih =>
    rw [List.map_cons, List.nodup_cons] at nd
    rcases List.mem_cons.mp he with rfl | h
    · exact valV_pos rfl
    · have ne : a.1 ≠ e.1 := fun z => nd.1 (List.mem_map.mpr ⟨e, h, z.symm⟩)
      rw [List.map_cons, valV_neg (show ¬ (encL a).1 = encK e.1 from fun z => ne (encK_inj z))]
      exact ih nd.2 h
theorem sayingE {n : Nat} {vt : Int → List (Str × Int)} (h2 : 2 ≤ n) : sayingM ⟨rowsE n vt, (n : Int) + 1, 0⟩ (.int 2) = some (2, rowJ 1 (vt 2)) := by
  show (if 1 ≤ (2 : Int) ∧ (2 : Int) ≤ (n : Int) + 1 then (findR (rowsE n vt) 2).map fun r => ((2 : Int), r) else none) = _
  rw [if_pos ⟨by omega, by omega⟩, findE_old (by omega) (by omega)]
  rfl
theorem underS {n : Nat} {vt : Int → List (Str × Int)} (h2 : 2 ≤ n) : underOk ⟨rowsS n vt, (n : Int) + 1, 0⟩ (.int 2) = true := by
  show (decide ((2 : Int) = 0) || (decide ((1 : Int) ≤ 2) && decide ((2 : Int) ≤ (n : Int) + 1) && (findR (rowsS n vt) 2).isSome)) = true
  rw [findS_2 h2, decide_eq_true (show (2 : Int) ≤ (n : Int) + 1 by omega)]
  rfl
end Vw
namespace Vw
open PySem PySem.Spec PyProof.Rows L2
local macro_rules | `(tactic| walk_at "rd") => `(tactic| simp only [tSeq, tNext, tIfS, tAsg, tRet, tRetN, tDrop, tVar, tC, tOp, tUn, tTest, tB, tAnd, tOr, tNot, tAndV, tOrV, tNotV, tIf, tChain, tCB, tCons, tNil, tCall, tMeth, tMake, tFld, sFld, tTup, tLst, tTupS, tLstS, tDNewKS, tDNewTS, tTold, tCmp, t2I, tIsN, tNotN, tPar, gName, gNil, gCons, gTup, gSub, rI0, rU, rEq, rNe, tDGet, tDIn, tDNotIn, sDPut, tDNewK, tDGet1, tDGet2, tDPop1, tDPop2, tBM, tBM0, tM0, tM1, tSl, tPart, tNoPart, tBreak, tCont, tThru, L2.start, List.map_cons, List.map_nil, List.length_cons, List.length_nil, List.cons_append, List.nil_append, List.append_nil, List.replicate_succ, List.replicate_zero, Nat.reduceAdd, Nat.reduceSub, Nat.zero_add, List.getElem?_cons_zero, List.getElem?_cons_succ, List.set_cons_zero, List.set_cons_succ, wipe, cxOf_K, tYes, List.cons.injEq, and_self, Option.some.injEq, V.int.injEq, V.bl.injEq, V.ref.injEq, V.str.injEq, exists_eq_left', exists_eq_left, exists_and_left, and_assoc, true_and, and_true, if_true, if_false, ite_true, ite_false, Bool.not_true, Bool.not_false, Bool.false_eq_true, reduceIte])
def spLaw (K : PySem.W.Frag) : Sp := fun vs H Q _ => ∃ (a : Addr) (ns : List Int), vs = [.ref a] ∧ SqL K H a (ns.map V.int) ∧ ns.length ≤ 63 ∧ (∀ z ∈ ns, z.natAbs < 2 ^ bigC) ∧ LamX.Tabs (tabs K) H ∧ ∀ H', Q (.bl true) H'
theorem six {j : Nat} (h : j < 6) : j = 0 ∨ j = 1 ∨ j = 2 ∨ j = 3 ∨ j = 4 ∨ j = 5 := by omega
abbrev namesV : List V := [.str "ann", .str "bob", .str "cy", .str "dd", .str "eve"]
theorem nameAt {j : Nat} (h : j < 6) : atI namesV ((j : Int) % 3) = some (.str (whoJ j)) := by
  rcases six h with rfl | rfl | rfl | rfl | rfl | rfl <;> rfl
theorem undAt {j : Nat} (h : j < 6) : atI [V.int 0, V.int 1] ((j : Int) % 2 * (if decide (0 < (j : Int)) = true then 1 else 0)) = some (.int (underJ j)) := by
  rcases six h with rfl | rfl | rfl | rfl | rfl | rfl <;> rfl
theorem eqv_int2 (a b c d : Int) : PyData.eqv (.tuple [.int a, .int b]) (.tuple [.int c, .int d]) = (decide (a = c) && decide (b = d)) := by
  have e : PyData.eqv (.tuple [.int a, .int b]) (.tuple [.int c, .int d]) = (PyData.eqv (.int a) (.int c) && (PyData.eqv (.int b) (.int d) && true)) := by
    first | rfl | simp [PyData.eqv, PyData.eqvList]
  rw [e, eqv_int, eqv_int, Bool.and_true]
theorem numsLen (N : Nat) : (((List.range N).map fun i : Nat => (i : Int) + 1).map V.int).length = N := by simp
theorem numAtV {N : Nat} {i : Int} (h0 : 0 ≤ i) (h1 : i < N) : atI (((List.range N).map fun i : Nat => (i : Int) + 1).map V.int) i = some (.int (i + 1)) := by
  rw [atI_nn h0 (by rw [numsLen]; exact h1), List.getElem?_map, List.getElem?_map, List.getElem?_range (by omega)]
  show some (V.int (((i.toNat : Nat) : Int) + 1)) = _
  rw [Int.toNat_of_nonneg h0]
theorem nameB (i : Int) : ∃ b, atI namesV (i % 5) = some (.str b) ∧ nameZ b = true := by
  have h : i % 5 = 0 ∨ i % 5 = 1 ∨ i % 5 = 2 ∨ i % 5 = 3 ∨ i % 5 = 4 := by omega
  rcases h with h | h | h | h | h <;> rw [h]
  · exact ⟨"ann", rfl, by decide +kernel⟩
  · exact ⟨"bob", rfl, by decide +kernel⟩
  · exact ⟨"cy", rfl, by decide +kernel⟩
  · exact ⟨"dd", rfl, by decide +kernel⟩
  · exact ⟨"eve", rfl, by decide +kernel⟩
theorem wayB (i : Int) : ∃ w : Int, atI [V.int 1, V.int (-1), V.int 0, V.int 1] (i % 4) = some (.int w) ∧ (w = 1 ∨ w = -1 ∨ w = 0) := by
  have h : i % 4 = 0 ∨ i % 4 = 1 ∨ i % 4 = 2 ∨ i % 4 = 3 := by omega
  rcases h with h | h | h | h <;> rw [h]
  · exact ⟨1, rfl, by omega⟩
  · exact ⟨-1, rfl, by omega⟩
  · exact ⟨0, rfl, by omega⟩
  · exact ⟨1, rfl, by omega⟩
theorem more_abs {c : Int} (h : 0 ≤ c ∧ c < 340282366920938463463374607431768211507) : c.natAbs < 2 ^ bigB :=
  Nat.lt_of_lt_of_le (abs_lt h.1 (Int.lt_trans h.2 (by decide : (340282366920938463463374607431768211507 : Int) < 2 ^ 129))) (Nat.pow_le_pow_right (by omega) (by unfold bigB; omega))
section
variable {P : Program} {w : World} {K : PySem.W.Frag} {mg : Str → Option Value} {base : Heap}
abbrev N_law : List Str := ["script", "k", "more", "wood", "last", "names", "j", "numbers", "number", "here", "by", "way", "who", "before", "told", "change", "ways", "votes", "under", "pair"]
theorem sc_law : FnScope N_law ["script"] (defScope s_law) := ⟨rfl, rfl, rfl, by decide +kernel, rfl, by decide +kernel, by decide +kernel⟩
theorem be_law : BindEq "law" "law" s_law ["script"] := fun _ _ _ _ _ _ us hl => match us, hl with | [_], _ => rfl
theorem D_law {fd : FuncData} (F : FunD K "law" "law" (defArgs s_law) (defBody s_law) (defScope s_law) [] [] (He.ga K "law") fd) (T : Txt K mg base) : FnOk P w K mg base (L2N.CX P w) 21 (He.ga K "law") fd ["script"] (spLaw K) := by
  refine fn_defC F sc_law (fun vs H Q E h => ?_) (fun cdv A outer s H vs Q E hcd hr h => ?_)
  · obtain ⟨a, ns, rfl, _⟩ := h
    rfl
  · obtain ⟨a, ns, rfl, hs, hl, hz, hT, q⟩ := h
    refine ⟨_, (pss_cons (ps_for ownE rfl (pi_range1 (by rfl) T.b_range (pa_cons (pe_callB (call_max2 rfl) (by rfl) T.b_max (by decide +kernel) (pa_cons pe_int (pa_cons (pe_callB (call_min2 rfl) (by rfl) T.b_min (by decide +kernel) (pa_cons pe_int (pa_cons (pe_callB call_len_seq (by rfl) T.b_len (by decide +kernel) (pa_cons (pv 0) pa_nil)) pa_nil))) pa_nil))) pa_nil)) (pg_name (i := 1) sc_law.nd rfl (Or.inl rfl))
      (pss_cons (ps_set (i := 2) sc_law.nd rfl (Or.inl rfl) (pe_cd (D__law_drawn T) (by exact hr.mono (by first | decide | omega)) T.g__law_drawn passE (pa_cons (pe_cd (D__law_cell T) (by exact hr.mono (by first | decide | omega)) T.g__law_cell passE (pa_cons (pv 0) (pa_cons (pv 1) pa_nil))) (pa_cons (pv 1) pa_nil))))
      (pss_cons (ps_asg (pe_tupS (pa_cons (pe_mk0 T.c_Wood.m (D_Wood___init__ T) (by exact hr.mono (by first | decide | omega)) T.c_Wood.g passE) (pa_cons pe_dnewTS pa_nil))) (pg_tup (by rfl) (pgs_cons (pg_name (i := 3) sc_law.nd rfl (Or.inr rfl)) (pgs_cons (pg_name (i := 4) sc_law.nd rfl (Or.inr rfl)) pgs_nil))))
      (pss_cons (ps_set (i := 5) sc_law.nd rfl (Or.inl rfl) (pe_lstS (pa_cons pe_str (pa_cons pe_str (pa_cons pe_str (pa_cons pe_str (pa_cons pe_str pa_nil)))))))
      (pss_cons (ps_for ownE rfl (pi_range1 (by rfl) T.b_range (pa_cons (pe_op op_add pe_int (pe_op op_mod (pv 2) pe_int)) pa_nil)) (pg_name (i := 6) sc_law.nd rfl (Or.inl rfl))
      (pss_one (ps_expr (pe_md (pv 3) T.c_Wood.c T.m_Wood_say (D_Wood_say T) (by exact hr.mono (by first | decide | omega)) passE (pa_cons (pe_ix ix_list (pv 5) (pe_op op_mod (pv 6) pe_int) (fun _ _ => rfl)) (pa_cons (pe_ix ix_list (pe_lstS (pa_cons pe_int (pa_cons pe_int pa_nil))) (pe_op op_mulW (pe_op op_mod (pv 6) pe_int) (pe_callTy call_int1 (by rfl) T.b_int (by decide +kernel) (pa_cons (pe_cmpR op_gt (pv 6) pe_int (nomark _)) pa_nil))) (fun _ _ => rfl)) (pa_cons pe_str pa_nil)))))))
      (pss_cons (ps_set (i := 7) sc_law.nd rfl (Or.inl rfl) (pe_md0 (pv 3) T.c_Wood.c T.m_Wood_numbers (D_Wood_numbers T) (by exact hr.mono (by first | decide | omega)) passE))
      (pss_cons (ps_for ownE rfl (pi_range1 (by rfl) T.b_range (pa_cons (pe_op op_add pe_int (pe_op op_mod (pe_op op_fdivW (pv 2) pe_int) pe_int)) pa_nil)) (pg_name (i := 6) sc_law.nd rfl (Or.inl rfl))
      (pss_cons (ps_set (i := 9) sc_law.nd rfl (Or.inl rfl) (pe_cd (D__law_drawn T) (by exact hr.mono (by first | decide | omega)) T.g__law_drawn passE (pa_cons (pv 2) (pa_cons (pe_op op_add pe_int (pv 6)) pa_nil))))
      (pss_cons (ps_asg (pe_tupS (pa_cons (pe_ix ix_list (pv 7) (pe_op op_mod (pv 9) (pe_callB call_len_seq (by rfl) T.b_len (by decide +kernel) (pa_cons (pv 7) pa_nil))) (fun _ _ => rfl)) (pa_cons (pe_ix ix_list (pv 5) (pe_op op_mod (pe_op op_fdivW (pv 9) pe_int) pe_int) (fun _ _ => rfl)) pa_nil))) (pg_tup (by rfl) (pgs_cons (pg_name (i := 8) sc_law.nd rfl (Or.inr rfl)) (pgs_cons (pg_name (i := 10) sc_law.nd rfl (Or.inr rfl)) pgs_nil))))
      (pss_cons (ps_set (i := 11) sc_law.nd rfl (Or.inr rfl) (pe_ix ix_list (pe_lstS (pa_cons pe_int (pa_cons (pe_un un_neg pe_int) (pa_cons pe_int (pa_cons pe_int pa_nil))))) (pe_op op_mod (pe_op op_fdivW (pv 9) pe_int) pe_int) (fun _ _ => rfl)))
      (pss_cons (ps_set (i := 12) sc_law.nd rfl (Or.inl rfl) (pe_ix ix_tup (pe_md (pv 3) T.c_Wood.c T.m_Wood_look (D_Wood_look T) (by exact hr.mono (by first | decide | omega)) passE (pa_cons (pv 8) pa_nil)) pe_int (fun _ _ => rfl)))
      (pss_cons (ps_set (i := 13) sc_law.nd rfl (Or.inl rfl) (pe_md (pv 3) T.c_Wood.c T.m_Wood_standing (D_Wood_standing T) (by exact hr.mono (by first | decide | omega)) passE (pa_cons (pv 12) pa_nil)))
      (pss_cons (ps_set (i := 14) sc_law.nd rfl (Or.inl rfl) (pe_tld (k := 12) (x := "law") T hcd T.tb_law (by exact hr.mono (by first | decide | omega)) (LamX.lamS_by (by decide +kernel)) rfl (fun _ _ _ _ _ => rfl) (fun A2 outer2 s2 H2 E2 f2 c2 hr => by exact (pe_md (pv 3) T.c_Wood.c T.m_Wood_vote (D_Wood_vote T) (by exact hr.mono (by first | decide | omega)) passL (pa_cons (pv 8) (pa_cons (pv 10) (pa_cons (pv 11) pa_nil)))))))
      (pss_cons (ps_if (pt_cmpR op_eq (pv 12) (pv 10) (nomark _)) (pss_cons (ps_if (PW.pt (pw_or (pt_ned (pv 14) (pe_tupS (pa_cons pe_str (pa_cons pe_str pa_nil))) (by exact hr.units)) (pw_or1 (pt_cmpR op_ne (pe_md (pv 3) T.c_Wood.c T.m_Wood_standing (D_Wood_standing T) (by exact hr.mono (by first | decide | omega)) passE (pa_cons (pv 12) pa_nil)) (pv 13) (nomark _))))) (pss_one (ps_ret pe_bl)) pss_nil)
      (pss_one ps_continue)) pss_nil)
      (pss_cons (ps_set (i := 15) sc_law.nd rfl (Or.inl rfl) (pe_op op_sub (pv 11) (pe_dg2 (pv 4) (pe_tupS (pa_cons (pv 8) (pa_cons (pv 10) pa_nil))) pe_int (by exact hu_of hr))))
      (pss_cons (ps_dp (pv 4) (pe_tupS (pa_cons (pv 8) (pa_cons (pv 10) pa_nil))) (pv 11) (by exact hu_of hr))
      (pss_cons (ps_lock (ps_setLc (i := 16) (own := [("pair", 19)]) (g := gName 19) rfl sc_law.nd rfl rfl (sw_true rfl rfl rfl (by decide +kernel)) (pi_keys (pv 4)) (blkOk_by (N := N_law) (sc := defScope s_law) (by decide +kernel)) (fun _ _ _ _ _ => by exact (pg_name (i := 19) sc_law.nd rfl (Or.inl rfl))) (fun _ _ _ _ _ => by exact (pts_one (pt_cmpR op_eq (pe_ixT K (pv 19) pe_int) (pv 8) (nomark _)))) (fun _ _ _ _ _ => by exact (pe_dg (pv 4) (pv 19) (by exact hu_of hr)))))
      (pss_cons (ps_if (PW.pt (pw_or (pt_ned (pv 14) (pe_callB (cr_sum rfl) (by rfl) T.b_sum (by decide +kernel) (pa_cons (pv 16) pa_nil)) (by exact hr.units)) (pw_or1 (pt_ned (pe_md (pv 3) T.c_Wood.c T.m_Wood_votes_of (D_Wood_votes_of T) (by exact hr.mono (by first | decide | omega)) passE (pa_cons (pv 8) pa_nil)) (pe_tupS (pa_cons (pe_bm PySem.F.plainAttrs_list PySem.F.slot_list_count PySem.F.type_list_count mt_lcount (pv 16) (pa_cons pe_int pa_nil)) (pa_cons (pe_bm PySem.F.plainAttrs_list PySem.F.slot_list_count PySem.F.type_list_count mt_lcount (pv 16) (pa_cons (pe_un un_neg pe_int) pa_nil)) pa_nil))) (by exact hr.units))))) (pss_one (ps_ret pe_bl)) pss_nil)
      (pss_one (ps_if (pt_cmpR op_ne (pe_md (pv 3) T.c_Wood.c T.m_Wood_standing (D_Wood_standing T) (by exact hr.mono (by first | decide | omega)) passE (pa_cons (pv 12) pa_nil)) (pe_op op_add (pv 13) (pv 15)) (nomark _)) (pss_one (ps_ret pe_bl)) pss_nil))))))))))))))
      (pss_one (ps_for ownE rfl (pi_list (pe_slice sl_listN (pv 7) (po_some pe_int) (po_some pe_int))) (pg_name (i := 8) sc_law.nd rfl (Or.inr rfl))
      (pss_cons (ps_set (i := 17) sc_law.nd rfl (Or.inl rfl) (pe_md (pv 3) T.c_Wood.c T.m_Wood_votes_of (D_Wood_votes_of T) (by exact hr.mono (by first | decide | omega)) passE (pa_cons (pv 8) pa_nil)))
      (pss_cons (ps_set (i := 18) sc_law.nd rfl (Or.inl rfl) (pe_md (pv 3) T.c_Wood.c T.m_Wood_say (D_Wood_say T) (by exact hr.mono (by first | decide | omega)) passE (pa_cons pe_str (pa_cons (pv 8) (pa_cons pe_str pa_nil)))))
      (pss_cons (ps_expr (pe_md (pv 3) T.c_Wood.c T.m_Wood_strike (D_Wood_strike T) (by exact hr.mono (by first | decide | omega)) passE (pa_cons (pv 8) (pa_cons (pe_ix ix_tup (pe_md (pv 3) T.c_Wood.c T.m_Wood_look (D_Wood_look T) (by exact hr.mono (by first | decide | omega)) passE (pa_cons (pv 8) pa_nil)) pe_int (fun _ _ => rfl)) pa_nil))))
      (pss_cons (ps_if (PW.pt (pw_or (pt_ned (pe_md (pv 3) T.c_Wood.c T.m_Wood_votes_of (D_Wood_votes_of T) (by exact hr.mono (by first | decide | omega)) passE (pa_cons (pv 8) pa_nil)) (pv 17) (by exact hr.units)) (pw_or1 (pt_cmpR op_notN (pe_ix ix_tup (pe_md (pv 3) T.c_Wood.c T.m_Wood_look (D_Wood_look T) (by exact hr.mono (by first | decide | omega)) passE (pa_cons (pv 8) pa_nil)) pe_int (fun _ _ => rfl)) pe_non (nomark _))))) (pss_one (ps_ret pe_bl)) pss_nil)
      (pss_cons (ps_if (pt_ned (pe_tld (k := 12) (x := "law") T hcd T.tb_law (by exact hr.mono (by first | decide | omega)) (LamX.lamS_by (by decide +kernel)) rfl (fun _ _ _ _ _ => rfl) (fun A2 outer2 s2 H2 E2 f2 c2 hr => by exact (pe_md (pv 3) T.c_Wood.c T.m_Wood_vote (D_Wood_vote T) (by exact hr.mono (by first | decide | omega)) passL (pa_cons (pv 8) (pa_cons pe_str (pa_cons pe_int pa_nil)))))) (pe_tupS (pa_cons pe_str (pa_cons pe_str pa_nil))) (by exact hr.units)) (pss_one (ps_ret pe_bl)) pss_nil)
      (pss_one (ps_if (pt_cmpR op_notIn_seq (pv 18) (pe_md (pv 3) T.c_Wood.c T.m_Wood_below (D_Wood_below T) (by exact hr.mono (by first | decide | omega)) passE (pa_cons (pv 8) pa_nil)) rfl) (pss_one (ps_ret pe_bl)) pss_nil))))))))))))))))
      (pss_one (ps_ret pe_bl))), ?_⟩
    walk_at "rd"
    generalize hm : max (1 : Int) (min 3 ns.length) = mx
    have mx1 : mx ≤ 3 := by omega
    refine forR2 (n := mx) (fun R h => ?_) (by omega) (fun _ σ' H' => (∃ x1 x2 x3 x4 x5 x6 x7 x8 x9 x10 x11 x12 x13 x14 x15 x16 x17 x18 x19, σ' = [some (.ref a), x1, x2, x3, x4, x5, x6, x7, x8, x9, x10, x11, x12, x13, x14, x15, x16, x17, x18, x19]) ∧ SqL K H' a (ns.map V.int) ∧ LamX.Tabs (tabs K) H') ⟨⟨_, _, _, _, _, _, _, _, _, _, _, _, _, _, _, _, _, _, _, rfl⟩, hs, hT⟩ (fun k σ1 H1 D1 hk h1 nx1 ct1 rt1 _ => ?_) (fun σ1 H1 h1 => q H1)
    · walk_at "rd"
      refine ⟨_, .inl hs, ?_⟩
      rw [List.length_map]
      have e : (if (if (ns.length : Int) < 3 then (ns.length : Int) else 3) > 1 then (if (ns.length : Int) < 3 then (ns.length : Int) else 3) else 1) = mx := by
        rw [← hm]
        split <;> split <;> omega
      rw [e]
      exact h
    · obtain ⟨⟨x1, x2, x3, x4, x5, x6, x7, x8, x9, x10, x11, x12, x13, x14, x15, x16, x17, x18, x19, rfl⟩, hs1, hT1⟩ := h1
      walk_at "rd"
      have z9 : (1000 : Nat) ≤ sizeLine := by rw [sizeLine_eq]; omega
      have kb : ((k : Nat) : Int).natAbs < 2 ^ 200 := Nat.lt_trans (show ((k : Nat) : Int).natAbs < 2 ^ 10 by omega) (by decide)
      refine ⟨a, ns, k, rfl, hs1, by omega, by omega, by omega, fun H2 s2 => ⟨_, _, rfl, cell_abs (by omega) (by omega) hz, kb, ?_⟩⟩
      have mr := drawM_range (cellM ns k) k
      generalize drawM (cellM ns k) k = more at mr ⊢
      intro p dx n1 n2 n3
      refine ⟨p, dx, rfl, upd_same, fun d H3 nd W3 kp3 => ⟨rfl, fun dl H4 nl s4 e4 => ⟨by omega, fun tp H5 n5 s5 e5 => ⟨tp, rfl, _, .inl (.inl e5), rfl, _, _, rfl, _, _, rfl, rfl, by omega, fun nm H6 n6 s6 e6 => ?_⟩⟩⟩⟩
      have s3 : Same H2 H3 := fun b o e => kp3 b o (ne_of_none e n1) (by rw [upd_ne (ne_of_none e n1), upd_ne (ne_of_none e n2)]; exact e)
      have s16 := ((s2.trans s3).trans s4).trans (s5.trans s6)
      have hs6 : SqL K H6 a (ns.map V.int) := s16.seq hs1
      have hT6 := hT1.ext s16
      have W6 := W3.same (s4.trans (s5.trans s6))
      have d6 := (s5.trans s6) _ _ e4
      have nJ : 0 ≤ 3 + more % 4 ∧ 3 + more % 4 ≤ 6 ∧ 3 ≤ 3 + more % 4 := by omega
      generalize hJ : 3 + more % 4 = nj at nJ
      refine forR2 (n := nj) (fun R h => ?_) (by omega) (fun j σ' H' => (∃ x6 x7 x8 x9 x10 x11 x12 x13 x14 x15 x16 x17 x18 x19, σ' = [some (.ref a), some (.int k), some (.int more), some (.ref p), some (.ref dl), some (.ref nm), x6, x7, x8, x9, x10, x11, x12, x13, x14, x15, x16, x17, x18, x19]) ∧
        (∃ L : Lay, L.p = p ∧ L.wd = wdV j (fun _ => []) ∧ WoodAt K H' L) ∧ H' dl = some (.dT []) ∧ H' nm = some (.lst [.str "ann", .str "bob", .str "cy", .str "dd", .str "eve"]) ∧ SqL K H' a (ns.map V.int) ∧ LamX.Tabs (tabs K) H')
        ⟨⟨_, _, _, _, _, _, _, _, _, _, _, _, _, _, rfl⟩, ⟨_, rfl, rfl, W6⟩, d6, e6, hs6, hT6⟩ (fun j σ1 H1 D2 hj h1 nx2 ct2 rt2 _ => ?_) (fun σ1 H1 h1 => ?_)
      · walk_at "rd"
        refine useI (by decide) ⟨_, rfl, ?_⟩
        rw [hJ]
        exact h
      · obtain ⟨⟨x6, x7, x8, x9, x10, x11, x12, x13, x14, x15, x16, x17, x18, x19, rfl⟩, ⟨L, rfl, wl, W1⟩, d1, e1, s1, t1⟩ := h1
        walk_at "rd"
        have hj6 : j < 6 := by omega
        have G : Good L.wd := by
          rw [wl]
          exact goodV _ (by omega)
        have cm : CMulW ((j : Int) % 2) (if decide (0 < (j : Int)) = true then 1 else 0) := by
          refine wide_mul (a := 2) (b := 2) ?_ ?_ (by omega) (by omega) (by omega)
          · omega
          · split <;> decide
        refine ⟨_, _, W1.top, fw_no _ _ _ (by decide) (by decide) (by decide), useI (by decide) ⟨nm, _, _, .str (whoJ j), rfl, rfl, SqL.of e1, nameAt hj6, by omega, fun lz H2 nz2 s2 e2 => useI (by decide) (.inr (useI cm ⟨lz, _, _, .int (underJ j), rfl, rfl, SqL.of e2, undAt hj6, ?_⟩))⟩⟩
        have W2 := W1.same s2
        refine ⟨L, _, _, _, .str (whoJ j), .int (underJ j), .str "x", rfl, W2, G.wf, G.le, .str _, .int _, .str _, short_name (who_name j), rfl, by show (1 : Nat) < sizeLine; omega, fun n M hM H3 L3 W3 e3 S3 => ?_, fun e he => ?_⟩
        · rw [wl, sayV (by omega)] at hM
          cases hM
          have k2 := S3.k2 W2
          exact nx2 _ _ ⟨⟨_, _, _, _, _, _, _, _, _, _, _, _, _, _, rfl⟩, ⟨L3, S3.p, e3, W3⟩, k2.lk.dT (s2 _ _ d1), k2.lk.lst (s2 _ _ e1), k2.lk.seq (s2.seq s1), k2.tabs (t1.ext s2)⟩
        · rw [wl, sayV (by omega)] at he
          cases he
      · obtain ⟨⟨x6, x7, x8, x9, x10, x11, x12, x13, x14, x15, x16, x17, x18, x19, rfl⟩, ⟨L, rfl, wl, W1⟩, d1, e1, s1, t1⟩ := h1
        walk_at "rd"
        have G : Good L.wd := by
          rw [wl]
          exact goodV _ (by omega)
        have lr : L.rows = rowsV nj.toNat fun _ => [] := congrArg Wd.rows wl
        have le : L.ents.map (·.n) = (List.range nj.toNat).map fun i : Nat => (i : Int) + 1 := by
          have := rowsV_keys nj.toNat fun _ => []
          rw [← lr] at this
          rw [← this]
          unfold Lay.rows
          rw [List.map_map]
          rfl
        have ln : L.ents.length = nj.toNat := by
          have := congrArg List.length le
          simpa using this
        refine ⟨_, _, W1.top, fw_no _ _ _ (by decide) (by decide) (by decide), L, rfl, W1, by omega, fun nb H2 n2 s2 e2 => ?_⟩
        rw [le, sortI_self (sortedV _)] at e2
        generalize hN : nj.toNat = N at *
        have N3 : 3 ≤ N ∧ N ≤ 6 := by omega
        generalize hM : 20 + more / 64 % 30 = mm
        have mm1 : 0 ≤ mm ∧ mm < 50 := by omega
        have k12 := LK.same s2
        obtain ⟨pw, hpw⟩ : ∃ x, L.p = x := ⟨_, rfl⟩
        rw [hpw]
        refine forR2 (n := mm) (fun R h => ?_) (by omega) (fun j σ' H' => (∃ x6 x8 x9 x10 x11 x12 x13 x14 x15 x16 x17 x18 x19, σ' = [some (.ref a), some (.int k), some (.int more), some (.ref pw), some (.ref dl), some (.ref nm), x6, some (.ref nb), x8, x9, x10, x11, x12, x13, x14, x15, x16, x17, x18, x19]) ∧
          (∃ (L' : Lay) (vt : Int → List (Str × Int)) (ls : Last), L'.p = pw ∧ L'.wd = wdV N vt ∧ WoodAt K H' L' ∧ VInv N vt ls ∧ ls.length ≤ j ∧ H' dl = some (.dT (ls.map encL))) ∧ H' nm = some (.lst namesV) ∧ H' nb = some (.lst (((List.range N).map fun i : Nat => (i : Int) + 1).map V.int)) ∧ SqL K H' a (ns.map V.int) ∧ LamX.Tabs (tabs K) H')
          ⟨⟨_, _, _, _, _, _, _, _, _, _, _, _, _, rfl⟩, ⟨L, fun _ => [], [], hpw, wl, W1.same s2, ⟨List.Pairwise.nil, (fun e he => nomatch he), fun _ => List.Perm.refl _⟩, by simp, k12.dT d1⟩, k12.lst e1, e2, k12.seq s1, t1.ext s2⟩ (fun j σ1 H3 D3 hj h3 nx3 ct3 rt3 _ => ?_) (fun σ1 H3 h3 => ?_)
        · walk_at "rd"
          refine useI (wide_div (b := 10) (by decide) (by decide) (by decide) (by decide)) (useI (by decide) ⟨_, rfl, ?_⟩)
          rw [hM]
          exact h
        · obtain ⟨⟨x6, x8, x9, x10, x11, x12, x13, x14, x15, x16, x17, x18, x19, rfl⟩, ⟨L', vt, ls, rfl, wl', W3, V3, ll, d3⟩, n3, b3, s3, t3⟩ := h3
          walk_at "rd"
          refine ⟨_, _, rfl, more_abs mr, Nat.lt_trans (show (10 + (j : Int)).natAbs < 2 ^ 10 by omega) (by decide), ?_⟩
          have hr3 := drawM_range more (10 + j)
          generalize drawM more (10 + j) = here at hr3 ⊢
          obtain ⟨b, hb, nb1⟩ := nameB (here / 64)
          obtain ⟨w1, hw, ww⟩ := wayB (here / 1024)
          have m0 : 0 ≤ here % (N : Int) := Int.emod_nonneg _ (by omega)
          have m1 : here % (N : Int) < N := Int.emod_lt_of_pos _ (by omega)
          refine ⟨_, .inl (SqL.of b3), ?_⟩
          rw [numsLen]
          refine useI (by omega) ⟨nb, _, _, _, rfl, rfl, SqL.of b3, numAtV m0 m1, useI (wide_div (b := 10) (by decide) (by decide) (by decide) (by decide)) (useI (by decide) ⟨nm, _, _, .str b, rfl, rfl, SqL.of n3, hb, by omega, fun tp H4 n4 s4 e4 => ⟨tp, rfl, _, .inl (.inl e4), rfl, _, _, rfl, _, _, rfl, rfl, by omega, fun wy H5 n5 s5 e5 =>
            useI (wide_div (b := 20) (by decide) (by decide) (by decide) (by decide)) (useI (by decide) ⟨wy, _, _, .int w1, rfl, rfl, SqL.of e5, hw, ?_⟩)⟩⟩)⟩
          have s35 := s4.trans s5
          have W5 := W3.same s35
          have hm1 : 1 ≤ here % (N : Int) + 1 := by omega
          have hm2 : here % (N : Int) + 1 ≤ N := by omega
          generalize here % (N : Int) + 1 = m at hm1 hm2 ⊢
          clear m0 m1 hb hw
          have sy := sayingV (n := N) (vt := vt) hm1 hm2
          rw [← wl'] at sy
          refine ⟨_, _, W5.top, fw_no _ _ _ (by decide) (by decide) (by decide), use_look W5 sy fun p6 H6 n6 s6 e6 => ⟨p6, _, _, .str (whoJ (m - 1).toNat), rfl, rfl, .inl (.inl e6), rfl, _, _, (W5.same s6).top, fw_no _ _ _ (by decide) (by decide) (by decide), use_standing (W5.same s6) (who_name _) fun H7 s7 => ⟨t3.ext (s35.trans (s6.trans s7)), fun H8 x8 t8 => ?_⟩⟩⟩
          have s37 := s35.trans (s6.trans s7)
          have k38 : LK H3 H8 := (LK.same s37).trans (LK.ext x8)
          have W8 := (W3.same s37).ext x8
          have st8 : standingM L'.wd (whoJ (m - 1).toNat) = stand N vt (whoJ (m - 1).toNat) := by rw [wl', standV]
          rw [st8]
          have lr3 : L'.rows = rowsV N vt := congrArg Wd.rows wl'
          have vl : ∀ e ∈ L'.ents, e.row.votes.length < 99999 := fun e he => by
            have me : (e.n, e.row) ∈ L'.rows := List.mem_map.mpr ⟨e, he, rfl⟩
            rw [lr3] at me
            obtain ⟨i, hi, ei⟩ := mem_rowsV.mp me
            have er : e.row = rowJ i (vt ((i : Int) + 1)) := congrArg Prod.snd ei
            rw [er]
            have := V3.len ((i : Int) + 1)
            show (vt ((i : Int) + 1)).length < 99999
            omega
          have hv := voteV (n := N) (vt := vt) (b := b) hm1 hm2 nb1 ww
          rw [← wl'] at hv
          refine ⟨_, _, W8.top, fw_no _ _ _ (by decide) (by decide) (by decide), L', _, _, _, .int m, .str b, .int w1, rfl, W8, .int _, .str _, .int _, short_name nb1, vl, fun pt M hM H9 L9 W9 e9 S9 => ?_, fun e he H9 s9 => ?_⟩
          · rw [hv] at hM
            by_cases hw : whoJ (m - 1).toNat = b
            · rw [if_pos hw] at hM
              cases hM
            · rw [if_neg hw] at hM
              cases hM
              refine ⟨rfl, ?_⟩
              rw [decide_eq_false (fun z => hw (V.str.inj z))]
              have k2 := S9.k2 W8
              have k39 := k38.trans k2.lk
              have d9 := k39.dT d3
              refine iteF ⟨.inr ⟨_, .inl d9⟩, by omega, fun tk H10 n10 s10 e10 => ⟨_, DGet.t (k := encK (m, b)) (s10 _ _ d9) e10, _, rfl, _, valL_enc ls (m, b), by omega, fun tk2 H11 n11 s11 e11 => ⟨_, DPut.t (k := encK (m, b)) (s11 _ _ (s10 _ _ d9)) e11 (by rw [List.length_map]; omega), ?_⟩⟩⟩
              rw [putL_enc]
              have V9 := V3.vote (m := m) (b := b) ww
              have pl := putL_len (k := (m, b)) (w := w1) V3.nd
              have d11 := s11 _ _ (s10 _ _ d9)
              have W12 := (W9.same (s10.trans s11)).updT (o := .dT ((putL ls (m, b) w1).map encL)) d11
              have t12 := upd_tabsT (o := .dT ((putL ls (m, b) w1).map encL)) ((k2.tabs t8).ext (s10.trans s11)) d11
              have k311 := k39.trans (LK.same (s10.trans s11))
              have n12 : upd H11 dl (.dT ((putL ls (m, b) w1).map encL)) nm = some (.lst namesV) := by
                rw [upd_ne (ne_of (k311.lst n3) d11 (by intro z; cases z))]
                exact k311.lst n3
              have b12 : upd H11 dl (.dT ((putL ls (m, b) w1).map encL)) nb = some (.lst (((List.range N).map fun i : Nat => (i : Int) + 1).map V.int)) := by
                rw [upd_ne (ne_of (k311.lst b3) d11 (by intro z; cases z))]
                exact k311.lst b3
              have s12 : SqL K (upd H11 dl (.dT ((putL ls (m, b) w1).map encL))) a (ns.map V.int) := by
                rcases k311.seq s3 with (h | ⟨o, h⟩) | h
                · exact .inl (.inl (by rw [upd_ne (ne_of h d11 (by intro z; cases z))]; exact h))
                · exact .inl (.inr ⟨o, by rw [upd_ne (ne_of h d11 (by intro z; cases z))]; exact h⟩)
                · exact .inr h
              have e12 : upd H11 dl (.dT ((putL ls (m, b) w1).map encL)) dl = some (.dT ((putL ls (m, b) w1).map encL)) := upd_same
              generalize upd H11 dl (.dT ((putL ls (m, b) w1).map encL)) = H12 at W12 t12 n12 b12 s12 e12 ⊢
              refine lkA (lcT encL (fW m) e12 (fun H' R h => ⟨_, rfl, h⟩) (by omega) (fun e H' od kq he hd hkq N1 N0 h1 h0 => ?_) (fun D H13 nD s13 eD => ?_))
              · walk_at "rd"
                refine ⟨kq, _, 0, .int e.1.1, rfl, rfl, .inl (.inl hkq), rfl, rfl, ?_⟩
                by_cases h : e.1.1 = m
                · rw [decide_eq_true (by rw [h])]
                  exact iteT ⟨.int e.2, .inr ⟨_, encK e.1, kq, .inr ⟨od, hd⟩, rfl, hkq, (valV_mem V9.nd he).symm⟩, h1 _ _ (Same.refl _) (by unfold fW; rw [if_pos h])⟩
                · rw [decide_eq_false (fun z => h (V.int.inj z))]
                  exact iteF (h0 _ (Same.refl _) (by unfold fW; rw [if_neg h]))
              · rw [fW_ways] at eD
                walk_at "rd"
                obtain ⟨c1, c2, c3⟩ := V9.counts m
                have up : updV vt m (votesM (vt m) b w1) m = votesM (vt m) b w1 := by unfold updV; rw [if_pos rfl]
                have sy9 := sayingV (n := N) (vt := updV vt m (votesM (vt m) b w1)) hm1 hm2
                rw [← e9] at sy9
                have W13 := W12.same s13
                have su := stand_upd (vt := vt) (v := votesM (vt m) b w1) hm1 hm2
                have sm := V3.sum m b w1
                obtain ⟨_, _, o3⟩ := V3.counts m
                rw [up] at c1 c2 c3
                rw [← S9.p]
                refine ⟨D, waysM m (putL ls (m, b) w1), rfl, SqL.of eD, use_neD (.int _) (.int _) rfl rfl ⟨_, rfl, ?_⟩⟩
                rw [eqv_int, decide_eq_true c3]
                refine iteF ⟨_, _, W13.top, fw_no _ _ _ (by decide) (by decide) (by decide), use_votesOf W13 sy9 fun p14 H14 n14 s14 e14 => ⟨.inl ⟨rfl, _, SqL.of (s14 _ _ eD)⟩, D, _, 1, rfl, rfl, SqL.of (s14 _ _ eD), .inl ⟨rfl, _, SqL.of (s14 _ _ eD)⟩, D, _, -1, rfl, rfl, SqL.of (s14 _ _ eD), by omega, fun p15 H15 n15 s15 e15 => use_neD (dp_int2 (s15 _ _ e14)) (dp_int2 e15) rfl rfl ⟨_, rfl, ?_⟩⟩⟩
                have r1 : (rowJ (m - 1).toNat (updV vt m (votesM (vt m) b w1) m)).ups = (((waysM m (putL ls (m, b) w1)).count 1 : Nat) : Int) := by rw [up]; exact c1
                have r2 : (rowJ (m - 1).toNat (updV vt m (votesM (vt m) b w1) m)).downs = (((waysM m (putL ls (m, b) w1)).count (-1) : Nat) : Int) := by rw [up]; exact c2
                rw [r1, r2, eqv_int2, decide_eq_true rfl, decide_eq_true rfl]
                have s315 := s13.trans (s14.trans s15)
                have W15 := W12.same s315
                refine iteF ⟨_, _, W15.top, fw_no _ _ _ (by decide) (by decide) (by decide), use_standing W15 (who_name _) fun H16 s16 => ⟨rfl, ?_⟩⟩
                have es : standingM L9.wd (whoJ (m - 1).toNat) = stand N vt (whoJ (m - 1).toNat) + (w1 - valL ls (m, b)) := by
                  rw [e9, standV, su]
                  omega
                rw [es, decide_eq_true rfl]
                have s1316 := s315.trans s16
                exact iteF (nx3 _ _ ⟨⟨_, _, _, _, _, _, _, _, _, _, _, _, _, by rw [S9.p]⟩, ⟨L9, _, _, S9.p, e9, W15.same s16, V9, by omega, s1316 _ _ e12⟩, s1316 _ _ n12, s1316 _ _ b12, s1316.seq s12, t12.ext s1316⟩)
          · rw [hv] at he
            by_cases hw : whoJ (m - 1).toNat = b
            · rw [if_pos hw] at he
              cases he
              refine ⟨"NotYours", by decide +kernel, rfl, rfl, fun r1 H10 n10 s10 e10 => ⟨rfl, ?_⟩⟩
              rw [hw, decide_eq_true rfl]
              refine iteT ⟨by omega, fun r2 H11 n11 s11 e11 => use_neD (dp_refu (s11 _ _ e10)) (dp_refu e11) (by decide +kernel) (by decide +kernel) ⟨_, rfl, iteF ?_⟩⟩
              have s8 := s9.trans (s10.trans s11)
              have W11 := W8.same s8
              rw [← hw]
              refine ⟨_, _, W11.top, fw_no _ _ _ (by decide) (by decide) (by decide), use_standing W11 (who_name _) fun H12 s12 => ⟨rfl, ?_⟩⟩
              rw [st8, decide_eq_true rfl]
              have k3 := k38.trans (LK.same (s8.trans s12))
              exact iteF (ct3 _ _ ⟨⟨_, _, _, _, _, _, _, _, _, _, _, _, _, rfl⟩, ⟨L', vt, ls, rfl, wl', W11.same s12, V3, by omega, k3.dT d3⟩, k3.lst n3, k3.lst b3, k3.seq s3, t8.ext (s8.trans s12)⟩)
            · rw [if_neg hw] at he
              cases he
        · obtain ⟨⟨x6, x8, x9, x10, x11, x12, x13, x14, x15, x16, x17, x18, x19, rfl⟩, ⟨L', vt, ls, rfl, wl', W3, V3, ll, d3⟩, n3, b3, s3, t3⟩ := h3
          walk_at "rd"
          have cut : cutV (((List.range N).map fun i : Nat => (i : Int) + 1).map V.int) (some 1) (some 2) = [2].map V.int := by
            have h : N = 3 ∨ N = 4 ∨ N = 5 ∨ N = 6 := by omega
            rcases h with rfl | rfl | rfl | rfl <;> rfl
          refine forL2 (l := [(2 : Int)]) V.int (fun R h => ?_) (fun q1 i σ' H' => SqL K H' q1 ([2].map V.int) ∧ SqL K H' a (ns.map V.int) ∧ LamX.Tabs (tabs K) H' ∧ (if i = 0 then WoodAt K H' L' ∧ σ' = [some (.ref a), some (.int k), some (.int more), some (.ref L'.p), some (.ref dl), some (.ref nm), x6, some (.ref nb), x8, x9, x10, x11, x12, x13, x14, x15, x16, x17, x18, x19]
            else ∃ x1 x2 x3 x4 x5 x6 x7 x8 x9 x10 x11 x12 x13 x14 x15 x16 x17 x18 x19, σ' = [some (.ref a), x1, x2, x3, x4, x5, x6, x7, x8, x9, x10, x11, x12, x13, x14, x15, x16, x17, x18, x19])) (fun q1 H4 s4 h4 => ⟨h4, s4.seq s3, t3.ext s4, W3.same s4, rfl⟩) (fun q1 i σ' H' _ h => h.1) (fun q1 i z σ1 H4 D4 hi h4 nx4 ct4 rt4 _ => ?_) (fun q1 σ' H' h => nx1 _ _ ⟨h.2.2.2, h.2.1, h.2.2.1⟩)
          · walk_at "rd"
            exact ⟨nb, _, rfl, SqL.of b3, fun q1 H4 n4 s4 e4 => h q1 H4 s4 (SqL.of (by rw [← cut]; exact e4))⟩
          · have i0 : i = 0 ∧ z = 2 := by
              cases i with
              | zero => exact ⟨rfl, (Option.some.inj hi).symm⟩
              | succ i => simp at hi
            obtain ⟨rfl, rfl⟩ := i0
            obtain ⟨h1, h2, h3, W4, rfl⟩ := h4
            walk_at "rd"
            have h2N : 2 ≤ N := by omega
            have sy2 := sayingV (n := N) (vt := vt) (m := 2) (by omega) (by omega)
            rw [← wl'] at sy2
            have G4 : Good L'.wd := by
              rw [wl']
              exact goodV _ (by omega)
            refine ⟨_, _, W4.top, fw_no _ _ _ (by decide) (by decide) (by decide), use_votesOf W4 sy2 fun p5 H5 n5 s5 e5 => ⟨_, _, (W4.same s5).top, fw_no _ _ _ (by decide) (by decide) (by decide), L', _, _, _, .str "zz", .int 2, .str "y", rfl, W4.same s5, G4.wf, G4.le, .str _, .int _, .str _, by show (2 : Nat) < sizeLine; omega, rfl, by show (1 : Nat) < sizeLine; omega, fun nn M hM H6 L6 W6 e6 S6 => ?_, fun e he => ?_⟩⟩
            · rw [wl', sayE h2N (by omega)] at hM
              cases hM
              have k6 := S6.k2 (W4.same s5)
              have sy6 := sayingE (n := N) (vt := vt) h2N
              rw [← e6] at sy6
              have lr6 : L6.rows = rowsE N vt := congrArg Wd.rows e6
              have ln6 : L6.ents.length = N + 1 := by
                have z : L6.ents.length = L6.rows.length := by unfold Lay.rows; rw [List.length_map]
                rw [z, lr6]
                unfold rowsE
                rw [List.length_append, rowsV_len]
                rfl
              rw [← S6.p]
              refine ⟨_, _, W6.top, fw_no _ _ _ (by decide) (by decide) (by decide), _, _, W6.top, fw_no _ _ _ (by decide) (by decide) (by decide), use_look W6 sy6 fun p7 H7 n7 s7 e7 => ⟨p7, _, _, .str "bob", rfl, rfl, .inl (.inl e7), rfl, L6, _, _, .int 2, .str "bob", rfl, W6.same s7, by rw [lr6]; exact wfE vt h2N, by omega, .int _, .str _, by show (3 : Nat) < sizeLine; omega, fun mm2 M hM H8 L8 W8 e8 S8 => ?_, fun e he => ?_⟩⟩
              · rw [e6, strikeE h2N] at hM
                cases hM
                have k8 := S8.k2 (W6.same s7)
                have sy8 := sayingS (n := N) (vt := vt) h2N
                rw [← e8] at sy8
                rw [← S8.p]
                have k58 : LK H5 H8 := (k6.lk.trans (LK.same s7)).trans k8.lk
                have t8 := k8.tabs ((k6.tabs (h3.ext s5)).ext s7)
                have a8 := k58.seq (s5.seq h2)
                have q8 := k58.seq (s5.seq h1)
                refine ⟨_, _, W8.top, fw_no _ _ _ (by decide) (by decide) (by decide), use_votesOf W8 sy8 fun p9 H9 n9 s9 e9 => use_neD (dp_int2 e9) (dp_int2 (s9 _ _ (k58.tup e5))) rfl rfl ⟨_, rfl, ?_⟩⟩
                have ev : PyData.eqv (.tuple [.int (row2 vt).ups, .int (row2 vt).downs]) (.tuple [.int (rowJ ((2 : Int) - 1).toNat (vt 2)).ups, .int (rowJ ((2 : Int) - 1).toNat (vt 2)).downs]) = true := by
                  rw [eqv_int2]
                  have u1 : (row2 vt).ups = (rowJ ((2 : Int) - 1).toNat (vt 2)).ups := rfl
                  have u2 : (row2 vt).downs = (rowJ ((2 : Int) - 1).toNat (vt 2)).downs := rfl
                  rw [u1, u2, decide_eq_true rfl, decide_eq_true rfl]
                  rfl
                rw [ev]
                refine iteF ⟨_, _, (W8.same s9).top, fw_no _ _ _ (by decide) (by decide) (by decide), use_look (W8.same s9) sy8 fun p10 H10 n10 s10 e10 => ⟨p10, _, _, .non, rfl, rfl, .inl (.inl e10), rfl, ?_⟩⟩
                dsimp only
                rw [decide_eq_true rfl]
                refine iteF ⟨t8.ext (s9.trans s10), fun H11 x11 t11 => ?_⟩
                have W11 := (W8.same (s9.trans s10)).ext x11
                have k811 : LK H8 H11 := (LK.same (s9.trans s10)).trans (LK.ext x11)
                have lr8 : L8.rows = rowsS N vt := congrArg Wd.rows e8
                have vl8 : ∀ e ∈ L8.ents, e.row.votes.length < 99999 := fun e he => by
                  have me : (e.n, e.row) ∈ L8.rows := List.mem_map.mpr ⟨e, he, rfl⟩
                  rw [lr8] at me
                  have vv : ∀ m, (vt m).length < 99999 := fun m => by
                    have := V3.len m
                    omega
                  rcases mem_setR me with ⟨z, _⟩ | ⟨z, _⟩
                  · rw [show e.row = row2 vt from congrArg Prod.snd z]
                    exact vv 2
                  · rcases List.mem_append.mp z with z | z
                    · obtain ⟨i, hi, ei⟩ := mem_rowsV.mp z
                      rw [show e.row = rowJ i (vt ((i : Int) + 1)) from congrArg Prod.snd ei]
                      exact vv _
                    · have z : (e.n, e.row) = ((N : Int) + 1, rowZ) := by simpa using z
                      rw [show e.row = rowZ from congrArg Prod.snd z]
                      show (0 : Nat) < 99999
                      omega
                have hv := voteS (n := N) (vt := vt) h2N
                rw [← e8] at hv
                refine ⟨_, _, W11.top, fw_no _ _ _ (by decide) (by decide) (by decide), L8, _, _, _, .int 2, .str "zz", .int 1, rfl, W11, .int _, .str _, .int _, by show (2 : Nat) < sizeLine; omega, vl8, fun pt M hM => ?_, fun e he H12 s12 => ?_⟩
                · rw [hv] at hM
                  cases hM
                · rw [hv] at he
                  cases he
                  refine ⟨"NotYours", by decide +kernel, rfl, rfl, fun r1 H13 n13 s13 e13 => ⟨by omega, fun r2 H14 n14 s14 e14 => use_neD (dp_refu (s14 _ _ e13)) (dp_refu e14) (by decide +kernel) (by decide +kernel) ⟨_, rfl, iteF ?_⟩⟩⟩
                  have s1114 := s12.trans (s13.trans s14)
                  have W14 := W11.same s1114
                  have G8 : Good L8.wd := by
                    rw [e8]
                    exact goodS vt h2N (by omega)
                  have u8 := underS (n := N) (vt := vt) h2N
                  rw [← e8] at u8
                  refine ⟨_, _, W14.top, fw_no _ _ _ (by decide) (by decide) (by decide), L8, _, .int 2, rfl, W14, G8, .int _, rfl, (fun n _ => by omega), (fun z => by rw [u8] at z; cases z), fun n hn _ p15 H15 n15 s15 e15 => ?_⟩
                  cases hn
                  have mem : ((N : Int) + 1) ∈ sortI (beneathR L8.rows 2) := by
                    rw [lr8]
                    exact (sortI_perm _).mem_iff.mpr (belowS vt h2N)
                  have inn : inV (.int ((N : Int) + 1)) ((sortI (beneathR L8.rows 2)).map V.int) = true := List.any_eq_true.mpr ⟨.int ((N : Int) + 1), List.mem_map.mpr ⟨_, mem, rfl⟩, by simp [eqV]⟩
                  refine ⟨p15, _, rfl, .inl (SqL.of e15), rfl, by rw [List.all_map]; exact List.all_eq_true.mpr fun _ _ => rfl, _, rfl, ?_⟩
                  rw [inn]
                  have k815 := k811.trans (LK.same (s1114.trans s15))
                  exact iteF (nx4 _ _ ⟨k815.seq q8, k815.seq a8, t11.ext (s1114.trans s15), _, _, _, _, _, _, _, _, _, _, _, _, _, _, _, _, _, _, _, rfl⟩)
              · rw [e6, strikeE h2N] at he
                cases he
            · rw [wl', sayE h2N (by omega)] at he
              cases he
end
end Vw
namespace Vw
open PySem PySem.Spec PyProof.Rows L2
def fa0 : List He.Fa := [.exc "WoodError", .glo "WoodError", .exc "BadName", .glo "BadName", .exc "NoSaying", .glo "NoSaying", .exc "BadText", .glo "BadText", .exc "Full", .glo "Full", .exc "NotYours", .glo "NotYours", .exc "BadNumber", .glo "BadNumber", .exc "BadDeed", .glo "BadDeed", .exc "Nothing", .glo "Nothing", .exc "NotKin", .glo "NotKin", .glo "Saying", .cls "Saying", .mkr "Saying", .noat "Saying" "by", .noat "Saying" "under", .noat "Saying" "text", .noat "Saying" "time", .noat "Saying" "votes", .noat "Saying" "is_struck", .glo "Wood"]
def fa1 : List He.Fa := [.cls "Wood", .mkr "Wood", .noat "Wood" "sayings", .noat "Wood" "came", .noat "Wood" "clock", .glo "is_count", .glo "need_name", .glo "need_text", .meth "Saying" "ups", .meth "Saying" "downs", .meth "Saying" "points", .meth "Wood" "saying", .meth "Wood" "numbers", .meth "Wood" "deep", .meth "Wood" "say", .meth "Wood" "look", .meth "Wood" "own", .meth "Wood" "change", .meth "Wood" "replies", .meth "Wood" "strike", .meth "Wood" "vote", .meth "Wood" "votes_of", .meth "Wood" "below", .meth "Wood" "many", .meth "Wood" "standing", .glo "_law_cell", .glo "_law_drawn", .glo "_law_word", .glo "_law_told", .glo "law"]
def fa2 : List He.Fa := [.free "ValueError", .free "all", .free "bool", .free "int", .free "isinstance", .free "len", .free "max", .free "min", .free "ord", .free "range", .free "sorted", .free "str", .free "sum", .str "SMALL" "abcdefghijklmnopqrstuvwxyz", .int "MOST_WORD" 6, .int "MOST_TEXT" 30, .int "MOST_SAYINGS" 60, .int "MOST_DEEP" 8, .int "BARRED" 37]
def fa : List He.Fa := fa0 ++ fa1 ++ fa2
def fn0 : List He.DefD := [⟨("is_count", none), "is_count", "is_count", defArgs s_is_count, defBody s_is_count, defScope s_is_count, [], []⟩, ⟨("need_name", none), "need_name", "need_name", defArgs s_need_name, defBody s_need_name, defScope s_need_name, [], []⟩, ⟨("need_text", none), "need_text", "need_text", defArgs s_need_text, defBody s_need_text, defScope s_need_text, [], []⟩, ⟨("Saying", some "__init__"), "__init__", "Saying.__init__", defArgs s_Saying___init__, defBody s_Saying___init__, defScope s_Saying___init__, [], []⟩, ⟨("Saying", some "ups"), "ups", "Saying.ups", defArgs s_Saying_ups, defBody s_Saying_ups, defScope s_Saying_ups, [], []⟩, ⟨("Saying", some "downs"), "downs", "Saying.downs", defArgs s_Saying_downs, defBody s_Saying_downs, defScope s_Saying_downs, [], []⟩, ⟨("Saying", some "points"), "points", "Saying.points", defArgs s_Saying_points, defBody s_Saying_points, defScope s_Saying_points, [], []⟩, ⟨("Wood", some "__init__"), "__init__", "Wood.__init__", defArgs s_Wood___init__, defBody s_Wood___init__, defScope s_Wood___init__, [], []⟩, ⟨("Wood", some "saying"), "saying", "Wood.saying", defArgs s_Wood_saying, defBody s_Wood_saying, defScope s_Wood_saying, [], []⟩, ⟨("Wood", some "numbers"), "numbers", "Wood.numbers", defArgs s_Wood_numbers, defBody s_Wood_numbers, defScope s_Wood_numbers, [], []⟩, ⟨("Wood", some "deep"), "deep", "Wood.deep", defArgs s_Wood_deep, defBody s_Wood_deep, defScope s_Wood_deep, [], []⟩, ⟨("Wood", some "say"), "say", "Wood.say", defArgs s_Wood_say, defBody s_Wood_say, defScope s_Wood_say, [], []⟩, ⟨("Wood", some "look"), "look", "Wood.look", defArgs s_Wood_look, defBody s_Wood_look, defScope s_Wood_look, [], []⟩, ⟨("Wood", some "own"), "own", "Wood.own", defArgs s_Wood_own, defBody s_Wood_own, defScope s_Wood_own, [], []⟩, ⟨("Wood", some "change"), "change", "Wood.change", defArgs s_Wood_change, defBody s_Wood_change, defScope s_Wood_change, [], []⟩, ⟨("Wood", some "replies"), "replies", "Wood.replies", defArgs s_Wood_replies, defBody s_Wood_replies, defScope s_Wood_replies, [], []⟩, ⟨("Wood", some "strike"), "strike", "Wood.strike", defArgs s_Wood_strike, defBody s_Wood_strike, defScope s_Wood_strike, [], []⟩, ⟨("Wood", some "vote"), "vote", "Wood.vote", defArgs s_Wood_vote, defBody s_Wood_vote, defScope s_Wood_vote, [], []⟩, ⟨("Wood", some "votes_of"), "votes_of", "Wood.votes_of", defArgs s_Wood_votes_of, defBody s_Wood_votes_of, defScope s_Wood_votes_of, [], []⟩, ⟨("Wood", some "below"), "below", "Wood.below", defArgs s_Wood_below, defBody s_Wood_below, defScope s_Wood_below, [], []⟩, ⟨("Wood", some "many"), "many", "Wood.many", defArgs s_Wood_many, defBody s_Wood_many, defScope s_Wood_many, [], []⟩, ⟨("Wood", some "standing"), "standing", "Wood.standing", defArgs s_Wood_standing, defBody s_Wood_standing, defScope s_Wood_standing, [], []⟩, ⟨("_law_cell", none), "_law_cell", "_law_cell", defArgs s__law_cell, defBody s__law_cell, defScope s__law_cell, [], []⟩, ⟨("_law_drawn", none), "_law_drawn", "_law_drawn", defArgs s__law_drawn, defBody s__law_drawn, defScope s__law_drawn, [], []⟩, ⟨("_law_word", none), "_law_word", "_law_word", defArgs s__law_word, defBody s__law_word, defScope s__law_word, [], []⟩, ⟨("_law_told", none), "_law_told", "_law_told", defArgs s__law_told, defBody s__law_told, defScope s__law_told, [], []⟩, ⟨("law", none), "law", "law", defArgs s_law, defBody s_law, defScope s_law, [], []⟩]
def fn : List He.DefD := fn0
def tf : List He.Defn := [("law", none)]
def exB (K : PySem.W.Frag) : Bool := wordB K errs

theorem txt_of {K : PySem.W.Frag} {w : World} {h base : Heap} {mg : Str → Option Value} (X : K.In h) (G : h.Ns mainGlobals mg) (c : He.SaysX fa fn [] tf exB w h K) (tb : ∀ p ∈ tf, LamX.TabB base mg (He.cT K p).1 (He.cT K p).2) : Txt K mg base := by
  have d : He.SaysD fa fn K := c.t.d
  have ex0 := c.more
  exact {
    x_WoodError := by obtain ⟨a, b, c, e⟩ := He.exc_ok (d.fact 0 rfl); exact ⟨He.glo_ok X G (d.fact 1 rfl), a, b, c, e⟩
    x_BadName := by obtain ⟨a, b, c, e⟩ := He.exc_ok (d.fact 2 rfl); exact ⟨He.glo_ok X G (d.fact 3 rfl), a, b, c, e⟩
    x_NoSaying := by obtain ⟨a, b, c, e⟩ := He.exc_ok (d.fact 4 rfl); exact ⟨He.glo_ok X G (d.fact 5 rfl), a, b, c, e⟩
    x_BadText := by obtain ⟨a, b, c, e⟩ := He.exc_ok (d.fact 6 rfl); exact ⟨He.glo_ok X G (d.fact 7 rfl), a, b, c, e⟩
    x_Full := by obtain ⟨a, b, c, e⟩ := He.exc_ok (d.fact 8 rfl); exact ⟨He.glo_ok X G (d.fact 9 rfl), a, b, c, e⟩
    x_NotYours := by obtain ⟨a, b, c, e⟩ := He.exc_ok (d.fact 10 rfl); exact ⟨He.glo_ok X G (d.fact 11 rfl), a, b, c, e⟩
    x_BadNumber := by obtain ⟨a, b, c, e⟩ := He.exc_ok (d.fact 12 rfl); exact ⟨He.glo_ok X G (d.fact 13 rfl), a, b, c, e⟩
    x_BadDeed := by obtain ⟨a, b, c, e⟩ := He.exc_ok (d.fact 14 rfl); exact ⟨He.glo_ok X G (d.fact 15 rfl), a, b, c, e⟩
    x_Nothing := by obtain ⟨a, b, c, e⟩ := He.exc_ok (d.fact 16 rfl); exact ⟨He.glo_ok X G (d.fact 17 rfl), a, b, c, e⟩
    x_NotKin := by obtain ⟨a, b, c, e⟩ := He.exc_ok (d.fact 18 rfl); exact ⟨He.glo_ok X G (d.fact 19 rfl), a, b, c, e⟩
    c_Saying := ⟨He.glo_ok X G (d.fact 20 rfl), He.cls_ok (d.fact 21 rfl), He.mkr_ok (d.fact 22 rfl)⟩
    n_Saying_by := He.noat_ok (d.fact 23 rfl)
    n_Saying_under := He.noat_ok (d.fact 24 rfl)
    n_Saying_text := He.noat_ok (d.fact 25 rfl)
    n_Saying_time := He.noat_ok (d.fact 26 rfl)
    n_Saying_votes := He.noat_ok (d.fact 27 rfl)
    n_Saying_is_struck := He.noat_ok (d.fact 28 rfl)
    c_Wood := ⟨He.glo_ok X G (d.fact 29 rfl), He.cls_ok (d.fact 30 rfl), He.mkr_ok (d.fact 31 rfl)⟩
    n_Wood_sayings := He.noat_ok (d.fact 32 rfl)
    n_Wood_came := He.noat_ok (d.fact 33 rfl)
    n_Wood_clock := He.noat_ok (d.fact 34 rfl)
    g_is_count := He.glo_ok X G (d.fact 35 rfl)
    f_is_count := d.def_ 0 rfl
    g_need_name := He.glo_ok X G (d.fact 36 rfl)
    f_need_name := d.def_ 1 rfl
    g_need_text := He.glo_ok X G (d.fact 37 rfl)
    f_need_text := d.def_ 2 rfl
    f_Saying___init__ := d.def_ 3 rfl
    m_Saying_ups := He.meth_ok (d.fact 38 rfl)
    f_Saying_ups := d.def_ 4 rfl
    m_Saying_downs := He.meth_ok (d.fact 39 rfl)
    f_Saying_downs := d.def_ 5 rfl
    m_Saying_points := He.meth_ok (d.fact 40 rfl)
    f_Saying_points := d.def_ 6 rfl
    f_Wood___init__ := d.def_ 7 rfl
    m_Wood_saying := He.meth_ok (d.fact 41 rfl)
    f_Wood_saying := d.def_ 8 rfl
    m_Wood_numbers := He.meth_ok (d.fact 42 rfl)
    f_Wood_numbers := d.def_ 9 rfl
    m_Wood_deep := He.meth_ok (d.fact 43 rfl)
    f_Wood_deep := d.def_ 10 rfl
    m_Wood_say := He.meth_ok (d.fact 44 rfl)
    f_Wood_say := d.def_ 11 rfl
    m_Wood_look := He.meth_ok (d.fact 45 rfl)
    f_Wood_look := d.def_ 12 rfl
    m_Wood_own := He.meth_ok (d.fact 46 rfl)
    f_Wood_own := d.def_ 13 rfl
    m_Wood_change := He.meth_ok (d.fact 47 rfl)
    f_Wood_change := d.def_ 14 rfl
    m_Wood_replies := He.meth_ok (d.fact 48 rfl)
    f_Wood_replies := d.def_ 15 rfl
    m_Wood_strike := He.meth_ok (d.fact 49 rfl)
    f_Wood_strike := d.def_ 16 rfl
    m_Wood_vote := He.meth_ok (d.fact 50 rfl)
    f_Wood_vote := d.def_ 17 rfl
    m_Wood_votes_of := He.meth_ok (d.fact 51 rfl)
    f_Wood_votes_of := d.def_ 18 rfl
    m_Wood_below := He.meth_ok (d.fact 52 rfl)
    f_Wood_below := d.def_ 19 rfl
    m_Wood_many := He.meth_ok (d.fact 53 rfl)
    f_Wood_many := d.def_ 20 rfl
    m_Wood_standing := He.meth_ok (d.fact 54 rfl)
    f_Wood_standing := d.def_ 21 rfl
    g__law_cell := He.glo_ok X G (d.fact 55 rfl)
    f__law_cell := d.def_ 22 rfl
    g__law_drawn := He.glo_ok X G (d.fact 56 rfl)
    f__law_drawn := d.def_ 23 rfl
    g__law_word := He.glo_ok X G (d.fact 57 rfl)
    f__law_word := d.def_ 24 rfl
    g__law_told := He.glo_ok X G (d.fact 58 rfl)
    f__law_told := d.def_ 25 rfl
    g_law := He.glo_ok X G (d.fact 59 rfl)
    f_law := d.def_ 26 rfl
    b_ValueError := He.free_ok X G (d.fact 60 rfl)
    b_all := He.free_ok X G (d.fact 61 rfl)
    b_bool := He.free_ok X G (d.fact 62 rfl)
    b_int := He.free_ok X G (d.fact 63 rfl)
    b_isinstance := He.free_ok X G (d.fact 64 rfl)
    b_len := He.free_ok X G (d.fact 65 rfl)
    b_max := He.free_ok X G (d.fact 66 rfl)
    b_min := He.free_ok X G (d.fact 67 rfl)
    b_ord := He.free_ok X G (d.fact 68 rfl)
    b_range := He.free_ok X G (d.fact 69 rfl)
    b_sorted := He.free_ok X G (d.fact 70 rfl)
    b_str := He.free_ok X G (d.fact 71 rfl)
    b_sum := He.free_ok X G (d.fact 72 rfl)
    k_SMALL := by obtain ⟨t, e⟩ := He.str_ok X G (d.fact 73 rfl); exact ⟨_, e, _, rfl⟩
    k_MOST_WORD := by obtain ⟨t, e⟩ := He.int_ok X G (d.fact 74 rfl); exact ⟨_, e, _, rfl⟩
    k_MOST_TEXT := by obtain ⟨t, e⟩ := He.int_ok X G (d.fact 75 rfl); exact ⟨_, e, _, rfl⟩
    k_MOST_SAYINGS := by obtain ⟨t, e⟩ := He.int_ok X G (d.fact 76 rfl); exact ⟨_, e, _, rfl⟩
    k_MOST_DEEP := by obtain ⟨t, e⟩ := He.int_ok X G (d.fact 77 rfl); exact ⟨_, e, _, rfl⟩
    k_BARRED := by obtain ⟨t, e⟩ := He.int_ok X G (d.fact 78 rfl); exact ⟨_, e, _, rfl⟩
    wd := wordB_ok ex0
    tb_law := tb ("law", none) (by unfold tf; simp)
  }

abbrev R : PySem.W.OpenRow := PySem.W.OpenLaw.row PySem.Challenge.rw_votewood_k13_whole_votes_once
abbrev hk : PySem.W.Hook := He.hookX 4 fa fn [] tf exB
def ob (s : PySem.W.SharedT) : He.AlX := He.obsX 4 fa fn [] tf exB (HandSHeadRun.getT s)
theorem ob_eq (s : PySem.W.SharedT) : ob s = hk.obs s.abs := He.obsX_eq (HandSHeadRun.getT_eq s)
def nm0 : List PySem.Str := ["_wall", "WoodError", "BadName", "NoSaying", "BadText", "Full", "NotYours", "BadNumber", "BadDeed", "Nothing", "NotKin", "SMALL", "MOST_WORD", "MOST_TEXT", "MOST_SAYINGS", "MOST_DEEP", "BARRED", "is_count", "need_name", "need_text", "Saying", "Wood", "_law_cell", "_law_drawn", "_law_word", "_law_told"]
def names : List PySem.Str := nm0
theorem run (w : World) : HandSHeadRun.RunEq R (PySem.W.view R.prog [29]) hk ob 30000 names w := by
  intro os
  kernel_rfl
theorem tabs_start {K : PySem.W.Frag} {H : Hp} (h : ∀ p ∈ tf.map (He.cT K), H p.2 = some (.tbl #[])) : LamX.Tabs (tabs K) H := fun p hp => LamX.TabS.nil (by
  simp only [tabs, List.mem_cons, List.not_mem_nil, or_false] at hp
  first
  | (subst hp; exact h _ (List.mem_map.mpr ⟨_, by unfold tf; simp, rfl⟩))
  | (rcases hp with hp | hp | hp | hp | hp | hp | hp | hp <;> (subst hp; exact h _ (List.mem_map.mpr ⟨_, by unfold tf; simp, rfl⟩))))
theorem law_at {K : PySem.W.Frag} {w : World} {h : Heap} {mg : Str → Option Value} {f : Addr} (X : K.In h) (G : h.Ns mainGlobals mg) (hf : mg ("law" : Str) = some (.ref f)) (c : He.SaysX fa fn [] tf exB w h K) :
    LamX.LawAtS PySem.Challenge.rw_votewood_k13_whole_votes_once w K (L2N.CX (PySem.Challenge.rw_votewood_k13_whole_votes_once).prog w) 21 63 "script" mg f h := by
  have g := hf.symm.trans (He.glo_ok X G (c.t.d.fact 59 (f := .glo "law") rfl))
  cases g
  obtain ⟨fd, F⟩ := c.t.d.def_ 26 (d := ⟨("law", none), "law", "law", defArgs s_law, defBody s_law, defScope s_law, [], []⟩) rfl
  have b := FunD.bindsA (ps := ["script"]) F be_law
  refine ⟨fd, tf.map (He.cT K), spLaw K, fun p hp => ?_, fun p hp => ?_, fun p hp => ?_, fun s u => b s [u] rfl, fun H a ns hl hz hH hS => ⟨a, ns, rfl, hS, hl, fun z hz1 => ?_, tabs_start hH, fun _ => rfl⟩, fun base KB GB hB => D_law F (txt_of X G c fun p hp => hB _ (List.mem_map.mpr ⟨p, hp, rfl⟩))⟩
  · obtain ⟨q, hq, rfl⟩ := List.mem_map.mp hp
    exact c.empty q hq
  · obtain ⟨q, hq, rfl⟩ := List.mem_map.mp hp
    exact c.out q hq
  · obtain ⟨q, hq, rfl⟩ := List.mem_map.mp hp
    exact PySem.W.codeHd_of_K X (c.hd q hq)
  · exact Nat.lt_of_lt_of_le (natAbs_lt_pow_bits z) (Nat.pow_le_pow_right (by omega) (Nat.le_trans (hz z hz1) (by unfold bigC; omega)))
end Vw
open PySem PySem.W PySem.Calls PyProof.Rows
theorem PySem.Challenge.cw_votewood_k13_whole_votes_once_holds : PySem.Challenge.rw_votewood_k13_whole_votes_once.Holds := by
  w_on; o_law
  refine HandSHeadRun.head_any (r := Vw.R) (q := view Vw.R.prog [29]) (H := Vw.hk) (ob := Vw.ob) (M := 30000) (loose := Vw.names) (d := HandSHeadRun.topDef Vw.R.prog 29) (kwd := []) Vw.ob_eq
    (by kernel_rfl) (fun s => by kernel_rfl) Vw.run (by kernel_rfl) (by kernel_rfl) (by kernel_rfl) (by rfl) (by first | assumption | decide +kernel) (by decide +kernel) ⟨rfl, rfl, rfl, rfl, rfl, by decide +kernel⟩ ?hw ?hc
  case hw => w_witness2
  case hc =>
    refine LamX.walk_ofTsE (l := PySem.Challenge.rw_votewood_k13_whole_votes_once) (n := 63) (k := 21) (x := "script") (CX := fun w => L2N.CX (PySem.Challenge.rw_votewood_k13_whole_votes_once).prog w) rfl (by decide) (by kernel_rfl) ⟨rfl, by decide, by decide⟩ ?F (fun w H s e s' z => by
      obtain ⟨_, _, _, _, _, _, _, _, _, _, _, _, z⟩ := z
      exact z)
    intro w mg fa h Y G hmg0
    obtain ⟨K, KX, c⟩ := Y
    have hmg : mg ("law" : PySem.Str) = some (.ref fa) := by
      have e : (HandSHeadRun.topDef Vw.R.prog 29).name = ("law" : PySem.Str) := by kernel_rfl
      rw [← e]
      exact hmg0
    exact ⟨K, KX, Vw.law_at KX G hmg c⟩
