import PyProof.Rows.All
import Wide.All
import OpenK.AllK
import Wide.FinOn
import PyProof.EqAt
import PyProof.EqKinds
import PyProof.TupleCall
import KE.KStateDown
import HandS.ForMost
import HandS.More
import HandS.Wide
import HandS.IsInst
import HandS.Zip
import HandS.TupAny
import HandS.Steps
import HandS.Exc
import HandS.Defaults
import HandS.Style
import HandS.Head0
import HandS.Head1
import HandS.Head2
import HandS.HeadEnd
import HandS.HeadHook1
import HandS.HeadHook2
import HandS.HeadHook3
import HandS.HeadHook4
import HandS.HeadNt
import HandS.ExcInit
import KE.KExcSuper
import KE.KExcInit
import PyProof.ExcBaseAll.IndexError
import PyProof.ExcBaseAll.LookupError
import KE.KSuper
import HandS.ExcField
import HandS.FStr
import HandS.TryMany
import HandS.ExcOwn
import HandS.ClsMeth
import HandS.Star
import HandS.Codes
import HandS.Property
import KE.KOpsOwn
import HandS.HeadWalk
import HandS.HotCalls
import HandS.Lambda
import HandS.TupMul
import KE.KDictKeyed
import KE.KeyNested
import HandS.DictComp
import HandS.Walk
import HandS.Conv
import KE.SortData
import HandS.Text
import KE.KRevSl
import HandS.ReplaceLit
import HandS.SortRule
import KE.DataMinMax
import KE.KDictDisplayH
import HandS.Small
import KE.DatumOrd
import PyProof.WalksMore
import PyProof.CollectIter
import PyProof.TupleIter
import PyProof.RulesMatch
import HandS.FStrTup
import PyProof.FString2
import PyProof.StrLaws
import PyProof.Rows.RegStrFacts
import HandS.MakeKwOnly
import KE.GoesEnum
import KE.GoesMore
import HandS.Iter
import KE.KLam
import HandS.Comp
import HandS.Strs
import HandS.NoneIn
import HandS.SetFor
import PySem.Challenge.RW_addpath_k19_counted_runs
set_option Elab.async false
set_option linter.all false
set_option maxRecDepth 100000
set_option maxHeartbeats 4000000
/-! small things that all defs lean on -/
namespace Bx
open PySem PySem.Spec PyProof.Rows L2
/-- what the head has told: the facts of names, the defs -/
structure Env (fal : List He.Fa) (fnl : List He.DefD) (fna : List He5.DefA) (xf : PySem.W.Frag → Bool) (K : PySem.W.Frag) (mg : Str → Option Value) : Prop where
  ex : ∃ h : Heap, K.In h ∧ h.Ns mainGlobals mg
  says : He.SaysD fal fnl K
  saysA : He5.SaysA [] fna K
  more : xf K = true
theorem Env.ok {fal : List He.Fa} {fnl : List He.DefD} {fna : List He5.DefA} {xf : PySem.W.Frag → Bool} {K : PySem.W.Frag} {mg : Str → Option Value} (E : Env fal fnl fna xf K mg) {f : He.Fa} (h : f ∈ fal) : f.ok K = true := by
  obtain ⟨i, hi⟩ := List.getElem?_of_mem h
  exact E.says.fact i hi
theorem Env.glo {fal : List He.Fa} {fnl : List He.DefD} {fna : List He5.DefA} {xf : PySem.W.Frag → Bool} {K : PySem.W.Frag} {mg : Str → Option Value} (E : Env fal fnl fna xf K mg) (x : Str) (h : He.Fa.glo x ∈ fal) : mg x = some (.ref (He.ga K x)) := by
  obtain ⟨hp, X, G⟩ := E.ex
  exact He.glo_ok X G (E.ok h)
theorem Env.free {fal : List He.Fa} {fnl : List He.DefD} {fna : List He5.DefA} {xf : PySem.W.Frag → Bool} {K : PySem.W.Frag} {mg : Str → Option Value} (E : Env fal fnl fna xf K mg) (x : Str) (h : He.Fa.free x ∈ fal) : mg x = none := by
  obtain ⟨hp, X, G⟩ := E.ex
  exact He.free_ok X G (E.ok h)
theorem Env.intc {fal : List He.Fa} {fnl : List He.DefD} {fna : List He5.DefA} {xf : PySem.W.Frag → Bool} {K : PySem.W.Frag} {mg : Str → Option Value} (E : Env fal fnl fna xf K mg) {x : Str} {i : Int} (h : He.Fa.int x i ∈ fal) : ∃ t, mg x = some (.int i t) := by
  obtain ⟨hp, X, G⟩ := E.ex
  exact He.int_ok X G (E.ok h)
theorem Env.strc {fal : List He.Fa} {fnl : List He.DefD} {fna : List He5.DefA} {xf : PySem.W.Frag → Bool} {K : PySem.W.Frag} {mg : Str → Option Value} (E : Env fal fnl fna xf K mg) {x z : Str} (h : He.Fa.str x z ∈ fal) : ∃ t, mg x = some (.str z t) := by
  obtain ⟨hp, X, G⟩ := E.ex
  exact He.str_ok X G (E.ok h)
/-- a module's number, a module's text -/
theorem pe_globI {X : Cx} {x : Str} {i : Int} {pos : Pos} (hg : Gl X x) (h : ∃ t, X.mg x = some (.int i t)) (hd : (x == ("__debug__" : Str)) = false := by decide) : PE X (.Name x pos) (tC (.int i)) := by
  obtain ⟨t, m⟩ := h
  exact pe_glob hg m ⟨t, rfl⟩ hd
theorem pe_globS {X : Cx} {x z : Str} {pos : Pos} (hg : Gl X x) (h : ∃ t, X.mg x = some (.str z t)) (hd : (x == ("__debug__" : Str)) = false := by decide) : PE X (.Name x pos) (tC (.str z)) := by
  obtain ⟨t, m⟩ := h
  exact pe_glob hg m ⟨t, rfl⟩ hd
/-- a def that stands under the module's name x and keeps its promise -/
def Good (P : Program) (w : World) (K : PySem.W.Frag) (mg : Str → Option Value) (base : Heap) (CX : CXT) (k : Nat) (x : Str) (ps : List Str) (sp : Sp) : Prop :=
  ∃ fd, FnOk P w K mg base CX k (He.ga K x) fd ps sp ∧ Binds K fd ps [] ∧ PySem.W.keepIn K (.ref (He.ga K x)) = true ∧ mg x = some (.ref (He.ga K x))
section
variable {X : Cx} {CX : CXT} {k : Nat} {ps : List Str} {sp : Sp} {E : XK} {x : Str} {p pos : Pos} {e : Expr} {es : List Expr} {t : TA}
theorem pe_G (F : Good X.prog X.w X.K X.mg X.base CX k x ps sp) (hr : Room k X.A) (hg : Gl X x) (hx : Passes CX X E) (ha : PA X (e :: es) t)
    (hdb : (x == ("__debug__" : Str)) = false := by decide) (he : starEach (e :: es) X.env = (false, eval e X.env) :: starEach es X.env := by rfl) (hpl : (backTo pos (starEach es X.env)).any (·.1) = false := by rfl) :
    PE X (.Call (.Name x p) (e :: es) [] pos) (tCall sp [] E t) := by
  obtain ⟨fd, F, b, kp, m⟩ := F
  exact pe_call F hr hg m kp b .nil hx ha hdb he hpl
theorem pe_G0 (F : Good X.prog X.w X.K X.mg X.base CX k x ps sp) (hr : Room k X.A) (hg : Gl X x) (hx : Passes CX X E)
    (hdb : (x == ("__debug__" : Str)) = false := by decide) :
    PE X (.Call (.Name x p) [] [] pos) (tCall sp [] E tNil) := by
  obtain ⟨fd, F, b, kp, m⟩ := F
  exact pe_call0 F hr hg m kp b .nil hx hdb
end
/-- a def called by n positional values and keywords ks; gV: its values in the parameters' order -/
def GoodN (P : Program) (w : World) (K : PySem.W.Frag) (mg : Str → Option Value) (base : Heap) (CX : CXT) (k : Nat) (x : Str) (n : Nat) (ks ps : List Str) (gV : List V → List V → List V) (sp : Sp) : Prop :=
  ∃ fd, FnOk P w K mg base CX k (He.ga K x) fd ps sp ∧ (∃ g, KBn K fd ps n ks g gV) ∧ PySem.W.keepIn K (.ref (He.ga K x)) = true ∧ mg x = some (.ref (He.ga K x))
section
variable {X : Cx} {CX : CXT} {k n : Nat} {ps ks : List Str} {sp : Sp} {E : XK} {x : Str} {p pos : Pos} {e : Expr} {es : List Expr} {kws : List Keyword} {t tk : TA} {gV : List V → List V → List V}
theorem pe_GN (F : GoodN X.prog X.w X.K X.mg X.base CX k x n ks ps gV sp) (hr : Room k X.A) (hg : Gl X x) (hx : Passes CX X E)
    (ha : PA X (e :: es) t) (hkw : PK X kws tk) (hall : (backToKw pos (keywordEach kws X.env)).all (·.1.isSome) = true := by rfl) (hks : (backToKw pos (keywordEach kws X.env)).filterMap (·.1) = ks := by rfl)
    (hdb : (x == ("__debug__" : Str)) = false := by decide) (he : starEach (e :: es) X.env = (false, eval e X.env) :: starEach es X.env := by rfl)
    (hpl : ((backTo pos (starEach (e :: es) X.env)).any (·.1) || (backToKw pos (keywordEach kws X.env)).any (·.1.isNone)) = false := by rfl) :
    PE X (.Call (.Name x p) (e :: es) kws pos) (tCallN n ks.length sp gV E t tk) := by
  obtain ⟨fd, F, ⟨g, hb⟩, kp, m⟩ := F
  exact pe_callN F hr hg m kp hb hx ha hkw hall hks hdb he hpl
end
/-- a def that stands at f (a method) -/
def GoodM (P : Program) (w : World) (K : PySem.W.Frag) (mg : Str → Option Value) (base : Heap) (CX : CXT) (k : Nat) (f : Addr) (ps : List Str) (sp : Sp) : Prop :=
  ∃ fd, FnOk P w K mg base CX k f fd ps sp ∧ Binds K fd ps []
theorem GoodM.raw {P : Program} {w : World} {K : PySem.W.Frag} {mg : Str → Option Value} {base : Heap} {CX : CXT} {k : Nat} {f : Addr} {ps : List Str} {sp : Sp} (G : GoodM P w K mg base CX k f ps sp) : FnR P w K mg base CX k f sp := by
  obtain ⟨fd, F, b⟩ := G
  exact (F.raw b .nil).imp fun vs H Q E h => by rw [List.append_nil]; exact h
/-- the same, with the def itself: for calls with keywords -/
def GoodD (P : Program) (w : World) (K : PySem.W.Frag) (mg : Str → Option Value) (base : Heap) (CX : CXT) (k : Nat) (d : He.DefD) (x : Str) (ps : List Str) (sp : Sp) : Prop :=
  ∃ fd, FnOk P w K mg base CX k (He.ga K x) fd ps sp ∧ Binds K fd ps [] ∧ PySem.W.keepIn K (.ref (He.ga K x)) = true ∧ mg x = some (.ref (He.ga K x)) ∧ FunD K d.name d.qual d.params d.body d.scope (d.dvs K) (d.kws K) (He.ga K x) fd
theorem GoodD.good {P : Program} {w : World} {K : PySem.W.Frag} {mg : Str → Option Value} {base : Heap} {CX : CXT} {k : Nat} {d : He.DefD} {x : Str} {ps : List Str} {sp : Sp} (h : GoodD P w K mg base CX k d x ps sp) : Good P w K mg base CX k x ps sp := by
  obtain ⟨fd, F, b, kp, m, _⟩ := h
  exact ⟨fd, F, b, kp, m⟩
theorem _root_.L2.FunD.bindsW {K : PySem.W.Frag} {x qual : Str} {params : Arguments} {body : List Stmt} {scope : Scope} {kws : List (Str × V)} {f : Addr} {fd : FuncData} {args : Args} {binds : List (Str × Value)} (F : FunD K x qual params body scope [] kws f fd)
    (h : ∀ (kV doc pm : Value) (an : Option Addr) (cdv ct : Value), bindArgs (PySem.W.fnOf x qual params body scope .none kV doc pm an cdv ct) args = pure binds) (s : Shared) : BindsTo s fd args binds := by
  obtain ⟨oc, od, dV, kV, doc, pm, an, cdv, ct, osl, rfl, lk, hcd, hD, hK⟩ := F.ex
  rcases hD with ⟨_, rfl⟩ | ⟨e, _⟩
  · exact .of_eq (h kV doc pm an cdv ct)
  · exact absurd rfl e
section
variable {X : Cx} {CX : CXT} {k : Nat} {ps ks : List Str} {sp : Sp} {E : XK} {x : Str} {p pos : Pos} {kws : List Keyword} {tk : TA} {d : He.DefD}
/-- f(k = v, ..), all parameters by keywords in their order -/
theorem pe_GK0 (F : GoodD X.prog X.w X.K X.mg X.base CX k d x ps sp) (hr : Room k X.A) (hg : Gl X x) (hx : Passes CX X E)
    (hb : ∀ {fd}, FunD X.K d.name d.qual d.params d.body d.scope (d.dvs X.K) (d.kws X.K) (He.ga X.K x) fd → ∀ (s : Shared) (us : List Value), us.length = ps.length → BindsTo s fd ⟨[], ps.zip us⟩ (ps.zip us))
    (hkw : PK X kws tk) (hall : (backToKw pos (keywordEach kws X.env)).all (·.1.isSome) = true := by rfl) (hks : (backToKw pos (keywordEach kws X.env)).filterMap (·.1) = ps := by rfl)
    (hdb : (x == ("__debug__" : Str)) = false := by decide) (hpl : ((backTo pos (starEach [] X.env)).any (·.1) || (backToKw pos (keywordEach kws X.env)).any (·.1.isNone)) = false := by rfl) :
    PE X (.Call (.Name x p) [] kws pos) (fun σ H Q => tk σ H fun zs H1 => sp zs H1 Q E) := by
  obtain ⟨fd, F, _, kp, m, D⟩ := F
  refine ⟨fun pins s σ H Q I h => ?_⟩
  refine wpAny_Call_Name_kw (ld_glob I hg m ?_ hdb)
  refine PySem.W.callWith_KW0 (h₀ := X.base) I.ok.mod.kin kp hall (thn (hkw.run pos pins s σ H _ I h) fun ws s2 ⟨zs, H2, I2, rz, q2⟩ => ⟨I2.kIn, ?_⟩) hpl
  rw [hks, List.append_nil]
  have l2 : ws.length = ps.length := by rw [← rz.length]; exact F.len _ _ _ _ q2
  refine wpAny_call (codeAny_mono (F.run X.A X.stack s2 H2 ⟨[], ps.zip ws⟩ ws zs Q E hr I2.env0 (hb D s2 ws l2) rz q2) fun r s' hq => ?_)
  cases r with
  | error e => exact hx pins σ H2 s2 e s' I2 hq
  | ok fl =>
    cases fl with
    | ret u => exact I2.after hq
    | next => exact False.elim hq
    | brk => exact False.elim hq
    | cont => exact False.elim hq
end
section
variable {X : Cx} {CX : CXT} {k : Nat} {ps ks : List Str} {sp : Sp} {E : XK} {x : Str} {p pos : Pos} {kws : List Keyword} {tk : TA} {d : He.DefD}
/-- f(k = v, ..), all parameters by keywords, from the last to the first -/
theorem pe_GKr (F : GoodD X.prog X.w X.K X.mg X.base CX k d x ps sp) (hr : Room k X.A) (hg : Gl X x) (hx : Passes CX X E)
    (hb : ∀ {fd}, FunD X.K d.name d.qual d.params d.body d.scope (d.dvs X.K) (d.kws X.K) (He.ga X.K x) fd → ∀ (s : Shared) (us : List Value), us.length = ps.length → BindsTo s fd ⟨[], ps.reverse.zip us⟩ (ps.zip us.reverse))
    (hkw : PK X kws tk) (hall : (backToKw pos (keywordEach kws X.env)).all (·.1.isSome) = true := by rfl) (hks : (backToKw pos (keywordEach kws X.env)).filterMap (·.1) = ps.reverse := by rfl)
    (hdb : (x == ("__debug__" : Str)) = false := by decide) (hpl : ((backTo pos (starEach [] X.env)).any (·.1) || (backToKw pos (keywordEach kws X.env)).any (·.1.isNone)) = false := by rfl) :
    PE X (.Call (.Name x p) [] kws pos) (fun σ H Q => tk σ H fun zs H1 => sp zs.reverse H1 Q E) := by
  obtain ⟨fd, F, _, kp, m, D⟩ := F
  refine ⟨fun pins s σ H Q I h => ?_⟩
  refine wpAny_Call_Name_kw (ld_glob I hg m ?_ hdb)
  refine PySem.W.callWith_KW0 (h₀ := X.base) I.ok.mod.kin kp hall (thn (hkw.run pos pins s σ H _ I h) fun ws s2 ⟨zs, H2, I2, rz, q2⟩ => ⟨I2.kIn, ?_⟩) hpl
  rw [hks, List.append_nil]
  have l2 : ws.length = ps.length := by
    have := F.len _ _ _ _ q2
    rw [List.length_reverse, rz.length] at this
    exact this
  refine wpAny_call (codeAny_mono (F.run X.A X.stack s2 H2 ⟨[], ps.reverse.zip ws⟩ ws.reverse zs.reverse Q E hr I2.env0 (hb D s2 ws l2) rz.reverse q2) fun r s' hq => ?_)
  cases r with
  | error e => exact hx pins σ H2 s2 e s' I2 hq
  | ok fl =>
    cases fl with
    | ret u => exact I2.after hq
    | next => exact False.elim hq
    | brk => exact False.elim hq
    | cont => exact False.elim hq
end
/-- len(t), said with K -/
def rLenC (K : PySem.W.Frag) : List V → Hp → VK → Prop := fun xs H Q => ∃ p ys, xs = [.ref p] ∧ (SqL K H p ys ∨ SqT K H p ys) ∧ Q (.int ((ys.length : Nat) : Int)) H
/-- tuple(t), said with K -/
def rTof (K : PySem.W.Frag) : List V → Hp → VK → Prop := fun xs H Q => ∃ p ys, xs = [.ref p] ∧ ((SqL K H p ys ∧ ∀ l, H l = none → Q (.ref l) (L2.upd H l (.tup ys))) ∨ (SqT K H p ys ∧ Q (.ref p) H))
/-- the scope of a written comprehension; the value of an assignment -/
def compSc : Expr → Scope
  | .ListComp _ _ sc _ => sc
  | _ => default
def assignVal : Stmt → Expr
  | .Assign _ v _ => v
  | _ => default
/-- list(t), said with K -/
def rLof (K : PySem.W.Frag) : List V → Hp → VK → Prop := fun xs H Q => ∃ p ys, xs = [.ref p] ∧ (SqL K H p ys ∨ SqT K H p ys) ∧ ∀ l, H l = none → Q (.ref l) (L2.upd H l (.lst ys))
/-- the module's name x is a tuple, plain -/
def tupN (K : PySem.W.Frag) (x : Str) : Bool := match K.lookup (He.ga K x) with
  | some ⟨.type c, none, .seq _ _, _⟩ => decide (c = "tuple")
  | _ => false
theorem tupN_ok {K : PySem.W.Frag} {x : Str} (h : tupN K x = true) (H : Hp) : tyV K "tuple" (.ref (He.ga K x)) H := by
  unfold tupN at h
  cases q : K.lookup (He.ga K x) with
  | none =>
    rw [q] at h
    cases h
  | some o =>
    obtain ⟨oc, od, dt, osl⟩ := o
    rw [q] at h
    cases oc with
    | type c =>
      cases od with
      | none =>
        cases dt with
        | seq its n => exact .inr (.inl ⟨rfl, _, q, congrArg Value.type (of_decide_eq_true h), rfl⟩)
        | _ => cases h
      | some a => cases dt <;> cases h
    | _ => cases od <;> cases dt <;> cases h
theorem ite_f {c : Bool} {A B : Prop} (hc : c = false) (h : B) : if c = true then A else B := by
  rw [hc]
  exact iteF h
theorem ite_t {c : Bool} {A B : Prop} (hc : c = true) (h : A) : if c = true then A else B := by
  rw [hc]
  exact iteT h
theorem dne {i j : Int} (h : i ≠ j) : decide (V.int i = V.int j) = false := decide_eq_false fun z => h (V.int.inj z)
theorem deq {i j : Int} (h : i = j) : decide (V.int i = V.int j) = true := decide_eq_true (congrArg V.int h)
theorem hu64_of {A : Around} {k : Nat} (hr : Room k A) : A.units + 64 < cLine := Nat.lt_of_le_of_lt (Nat.le_refl _) hr.units
theorem closing {fal : List He.Fa} {fnl : List He.DefD} {fna : List He5.DefA} {xf : PySem.W.Frag → Bool} {P : Program} {w : World} {K : PySem.W.Frag} {h : Heap} {mg : Str → Option Value} {fa : Addr} {k : Nat} {sp : PySem.W.Frag → Sp} {pa : Arguments} {bd : List Stmt} {sc : Scope}
    (KX : K.In h) (G : h.Ns mainGlobals mg) (hmg : mg ("law" : Str) = some (.ref fa)) (c : He.SaysD fal fnl K) (ca : He5.SaysA [] fna K) (cx : xf K = true) (gl : Env fal fnl fna xf K mg → mg ("law" : Str) = some (.ref (He.ga K "law")))
    (D : ∃ fd, FunD K "law" "law" pa bd sc [] [] (He.ga K "law") fd)
    (F : ∀ (base : Heap) (fd : FuncData), Env fal fnl fna xf K mg → FunD K "law" "law" pa bd sc [] [] (He.ga K "law") fd → FnOk P w K mg base CX0 k (He.ga K "law") fd ["script"] (sp K))
    (b : ∀ {fd : FuncData}, FunD K "law" "law" pa bd sc [] [] (He.ga K "law") fd → ∀ (s : Shared) (v : Value), BindsTo s fd ⟨[v], []⟩ [("script", v)])
    (hsp : ∀ (H : Hp) (a : Addr) (ns : List Int), ns.length ≤ 63 → SqL K H a (ns.map V.int) → sp K [.ref a] H (fun v _ => v = .bl true) fun _ _ _ => False) :
    ∃ (K : PySem.W.Frag) (fd : FuncData) (sp : Sp), K.In h ∧ (∀ (s : Shared) (u : Value), BindsTo s fd ⟨[u], []⟩ [("script", u)]) ∧
        (∀ (H : Hp) (a : Addr) (ns : List Int), ns.length ≤ 63 → Only H → SqL K H a (ns.map V.int) → sp [.ref a] H (fun v _ => v = .bl true) fun _ _ _ => False) ∧
        ∀ base : Heap, K.In base → base.Ns mainGlobals mg → FnOk P w K mg base CX0 k fa fd ["script"] sp := by
  have E : Env fal fnl fna xf K mg := ⟨⟨h, KX, G⟩, c, ca, cx⟩
  obtain ⟨fd, hD⟩ := D
  have e := (gl E).symm.trans hmg
  cases e
  exact ⟨K, fd, sp K, KX, b hD, fun H a ns hl _ hS => hsp H a ns hl hS, fun base _ _ => F base fd E hD⟩
end Bx


-- imports HandS.ExcInit KE.KExcSuper KE.KExcInit PyProof.ExcBaseAll.IndexError PyProof.ExcBaseAll.LookupError
/-! own exceptions over ValueError, IndexError or LookupError: their first field, a further one -/
namespace Bx
open PySem PySem.Spec PyProof.Rows L2
/-- the built-in that an own exception stands over -/
inductive EB | ve | ie | le
def EB.nm : EB → String
  | .ve => "ValueError"
  | .ie => "IndexError"
  | .le => "LookupError"
def EB.new : EB → String
  | .ve => "ValueError.__new__"
  | .ie => "IndexError.__new__"
  | .le => "LookupError.__new__"
def EB.ini : EB → String
  | .ve => "ValueError.__init__"
  | .ie => "IndexError.__init__"
  | .le => "LookupError.__init__"
def EB.mro : EB → List Value
  | .ve => [.type "ValueError", .type "Exception", .type "BaseException", .type "object"]
  | .ie => [.type "IndexError", .type "LookupError", .type "Exception", .type "BaseException", .type "object"]
  | .le => [.type "LookupError", .type "Exception", .type "BaseException", .type "object"]
theorem EB.ex (b : EB) : ExcBaseFacts b.nm b.new b.ini b.mro := match b with
  | .ve => F.excBase_ValueError
  | .ie => F.excBase_IndexError
  | .le => F.excBase_LookupError
theorem EB.st (b : EB) : StoreFacts b.nm b.mro "object.__setattr__" "object" := match b with
  | .ve => F.store_ValueError
  | .ie => F.store_IndexError
  | .le => F.store_LookupError
theorem EB.kx (b : EB) : PySem.W.KxsFacts b.nm b.ini := match b with
  | .ve => PySem.W.kxs_ValueError
  | .ie => PySem.W.kxs_IndexError
  | .le => PySem.W.kxs_LookupError
structure OexG (b : EB) (K : PySem.W.Frag) (C : Addr) : Prop where
  cls : ∃ nm q N bs bm sn sub ab col dd k0 k1 k2 k3 k5, K.lookup C = some (excClassObj nm q C N bs bm true sn sub ab col dd k0 k1 k2 k3 k5 b.new) ∧ PySem.W.excTail b.mro bm = true
  sa : PySem.W.findIn K (.ref C) "__setattr__" = some (some (.builtin "object.__setattr__"))
  exC : PySem.W.subIn K (.ref C) (.type "BaseException") = some true
  tyC : PySem.W.typeIn K (.ref C) = some (.type "type")
  kC : PySem.W.keepIn K (.ref C) = true
section
open Builtin Builtin.ObjectAttr
variable {prog : Program} {w : World} {A : Around} {E : Value → Shared → Prop} {R : Result → Shared → Prop} {hp : Heap} {g : Array GenState} {d : Drawn} {t : Nat} {os : OsState} {K : PySem.W.Frag} {C : Addr} {b : EB} {name : Str} {tk : Tok} {v : Value} {x : Addr} {fv : Array Value}
theorem OexG.over (T : OexG b K C) : PySem.W.excOver K C b.mro = true := by
  obtain ⟨nm, q, N, bs, bm, sn, sub, ab, col, dd, k0, k1, k2, k3, k5, hC, hbm⟩ := T.cls
  unfold PySem.W.excOver PySem.W.clsIn
  rw [hC]
  show (C == C && PySem.W.excTail b.mro bm) = true
  rw [hbm, beq_self_eq_true]
  rfl
/-- the first field: the object's dict is laid -/
theorem setG_new (T : OexG b K C) (X : K.In hp) (hx : hp.get? x = some { cls := .ref C, data := .fields fv }) (ha : PySem.W.findIn K (.ref C) name = some none)
    (hq : ∀ h' tk' dx, (∀ c o, c ≠ x → hp.get? c = some o → h'.get? c = some o) → hp.objs.size ≤ dx → dx ≠ x → h'.get? x = some { cls := .ref C, dict := some dx, data := .fields fv } → h'.Ns1 dx (fun y => if y = name then some v else none) → R (.ok (.ret .none)) ⟨h', g, d, tk', os⟩) :
    codeAny (model prog w) A (.call (.builtin "object.__setattr__") ⟨[.ref x, .str name tk, v], []⟩) R ⟨hp, g, d, t, os⟩ := by
  obtain ⟨nm, q, N, bs, bm, sn, sub, ab, col, dd, k0, k1, k2, k3, k5, hC, hbm⟩ := T.cls
  have nx : x ≠ hp.objs.size := Nat.ne_of_lt (Heap.lt_size hx)
  have cl : PySem.W.Looks (model prog w) hp (classData C) _ := PySem.W.looks_clsIn X (by unfold PySem.W.clsIn; rw [hC] <;> rfl)
  refine PySem.W.osa_openX (r := none) b.st X (ox := { cls := .ref C, data := .fields fv }) (od := none) ⟨hx, rfl, rfl, trivial⟩ T.over (by unfold PySem.W.takerIn; rw [ha]; rfl) fun bb => ?_
  show wpAny _ _ (storeInOwnDict (.ref x) (.ref C) (.str name tk) name v bb) _ _ _
  unfold storeInOwnDict ownDictForStores
  repeat (first | with_reducible refine PySem.HandSPX.store_in_new ?_ ?_ | with_reducible refine wpAny_loadPart_at hx ?_ | with_reducible refine cl.at ?_ | wp_step)
  · refine ⟨_, #[], _, (Heap.get?_update_ne _ _ _ _ nx.symm).trans (Heap.get?_push_at rfl rfl), rfl, fun e he => ?_, fun _ => rfl⟩
    simp at he
  · intro h' tk' hn' sb
    have hx1 : (hp.push { cls := .type "dict", data := .dict #[] }).get? x = some { cls := .ref C, data := .fields fv } := Heap.get?_push_of_some _ hx
    refine hq h' tk' hp.objs.size (fun c o hc ho => ?_) (Nat.le_refl _) nx.symm ((sb.2 x nx).trans (Heap.get?_update_self _ hx1 rfl)) hn'
    rw [sb.2 c (Nat.ne_of_lt (Heap.lt_size ho)), Heap.get?_update_ne _ _ _ _ hc]
    exact Heap.get?_push_of_some _ ho
/-- a further field -/
theorem setG_old {dx : Addr} {m0 : Str → Option Value} {nl : List Str} (T : OexG b K C) (X : K.In hp) (hx : hp.get? x = some { cls := .ref C, dict := some dx, data := .fields fv }) (hns : hp.Ns1 dx m0) (hw : Within m0 nl) (hz : nl.length ≤ 1000) (ha : PySem.W.findIn K (.ref C) name = some none)
    (hq : ∀ h' tk', (∀ c o, c ≠ dx → hp.get? c = some o → h'.get? c = some o) → h'.Ns1 dx (fun y => if y = name then some v else m0 y) → R (.ok (.ret .none)) ⟨h', g, d, tk', os⟩) :
    codeAny (model prog w) A (.call (.builtin "object.__setattr__") ⟨[.ref x, .str name tk, v], []⟩) R ⟨hp, g, d, t, os⟩ := by
  obtain ⟨nm, q, N, bs, bm, sn, sub, ab, col, dd, k0, k1, k2, k3, k5, hC, hbm⟩ := T.cls
  obtain ⟨oD, _, _, hoD, _, _⟩ := hns.count hw
  have cl : PySem.W.Looks (model prog w) hp (classData C) _ := PySem.W.looks_clsIn X (by unfold PySem.W.clsIn; rw [hC] <;> rfl)
  refine PySem.W.osa_openX (r := none) b.st X (ox := { cls := .ref C, dict := some dx, data := .fields fv }) (od := some oD) ⟨hx, rfl, rfl, hoD⟩ T.over (by unfold PySem.W.takerIn; rw [ha]; rfl) fun bb => ?_
  show wpAny _ _ (storeInOwnDict (.ref x) (.ref C) (.str name tk) name v bb) _ _ _
  unfold storeInOwnDict ownDictForStores
  repeat (first | with_reducible refine PySem.OEX.store_in_old hns hw hz ?_ | with_reducible refine wpAny_loadPart_at hx ?_ | with_reducible refine cl.at ?_ | wp_step)
  intro h' tk' hn' sb
  exact hq h' tk' (fun c o hc ho => (sb.2 c hc).trans ho) hn'
end
section
variable {X : Cx} {pins : List (Addr × Obj)} {σ : L2.St} {H : Hp} {s : Shared} {a C dx : Addr} {f : Str} {y : V} {u : Value} {fs : List (Str × V)} {Q : Unit → Shared → Prop} {E : Value → Shared → Prop} {A : Around} {b : EB}
theorem ostG_new (T : OexG b X.K C) (I : L2.Inv X pins σ H s) (e : H a = some (exo a C none)) (hno : PySem.W.findIn X.K (.ref C) f = some none) (ry : RelV y u)
    (h : ∀ dx s', H dx = none → dx ≠ a → L2.Inv X pins σ (upd (upd H dx (exd dx [(f, y)])) a (exo a C (some dx))) s' → Q () s') : wpAny (model X.prog X.w) A (setAttr (.ref a) f u) Q E s := by
  obtain ⟨t1, ho⟩ := exo_at I.hok e
  obtain ⟨hp, g, d, t, os⟩ := s
  refine PySem.W.set_plain I.kIn (ox := { cls := .ref C, dict := none, data := .fields #[.ref t1, .none, .none, .none, .bool false, .none] }) (od := none) ⟨ho, rfl, rfl, trivial⟩ T.sa ?_
  refine setG_new T I.kIn ho hno fun h' tk' dx k dn dne hx hn => ?_
  have hnd : H dx = none := I.hok.fresh dn
  have nd : ∀ {c : Addr} {o : Obj}, hp.get? c = some o → c ≠ dx := fun {c o} q => Nat.ne_of_lt (Nat.lt_of_lt_of_le (Heap.lt_size q) dn)
  have na : ∀ {c : Addr}, H c = none → c ≠ a := fun {c} n => (ne_of_none e n).symm
  refine h dx _ hnd dne (I.un (t' := tk') ⟨fun c o q n _ _ => k c o (na n) q, fun c o q n _ _ => ⟨o.slots, k c o (na n) q⟩, fun c o q n _ => by rw [upd_ne (na n), upd_ne (nd q)]; exact n, fun c o q _ => ?_,
    fun c xs q => by rw [upd_ne (at_ne e q exo_tup), upd_ne (ne_of_none q hnd)]; exact q, fun c o v q => by rw [upd_ne (at_ne e q exo_frz), upd_ne (ne_of_none q hnd)]; exact q,
    fun c ps q => ⟨#[], by rw [upd_ne (at_ne e q exo_tbl), upd_ne (ne_of_none q hnd), q]; simp⟩⟩ fun c o q => ?_)
  · by_cases hc : c = a
    · exact ⟨_, by rw [hc]; exact hx⟩
    · exact ⟨o, k c o hc q⟩
  · by_cases hc : c = a
    · subst hc
      rw [upd_same] at q
      cases q
      exact exo_ok hx
    rw [upd_ne hc] at q
    by_cases hd : c = dx
    · subst hd
      rw [upd_same] at q
      cases q
      exact exd_ok hn (relO_put (fs := []) ry fun g => True.intro)
    rw [upd_ne hd] at q
    refine (I.hok c o q).stay (fun c2 v hc2 z => k c2 v ?_ z) (fun c2 hc2 => ?_) fun c2 xs hc2 => ?_
    · rcases hc2 with r | r
      · rw [r]; exact hc
      · exact at_ne e r exo_own
    · rw [upd_ne (at_ne e hc2 exo_own), upd_ne (ne_of_none hc2 hnd)]; exact hc2
    · rw [upd_ne (at_ne e hc2 exo_tup), upd_ne (ne_of_none hc2 hnd)]; exact hc2
theorem ostG_old (T : OexG b X.K C) (I : L2.Inv X pins σ H s) (e : H a = some (exo a C (some dx))) (ed : H dx = some (exd dx fs)) (hl : fs.length ≤ 900) (hno : PySem.W.findIn X.K (.ref C) f = some none) (ry : RelV y u)
    (h : ∀ s', L2.Inv X pins σ (upd H dx (exd dx ((f, y) :: fs))) s' → Q () s') : wpAny (model X.prog X.w) A (setAttr (.ref a) f u) Q E s := by
  obtain ⟨t1, ho⟩ := exo_at I.hok e
  obtain ⟨mA, hns, rel⟩ := exd_at I.hok ed
  have hw := within_of rel
  obtain ⟨hp, g, d, t, os⟩ := s
  obtain ⟨oD, _, _, hoD, _, _⟩ := hns.count hw
  refine PySem.W.set_plain I.kIn (ox := { cls := .ref C, dict := some dx, data := .fields #[.ref t1, .none, .none, .none, .bool false, .none] }) (od := some oD) ⟨ho, rfl, rfl, hoD⟩ T.sa ?_
  refine setG_old T I.kIn ho hns hw (by rw [List.length_map]; omega) hno fun h' tk' k hn => ?_
  obtain ⟨o, _, _, e', _⟩ := id hn
  exact h _ (I.write (t' := tk') (x := dx) (e := dx) (o := exd dx ((f, y) :: fs)) (by rw [ed]; exact True.intro) (.inl rfl) k ⟨o, e'⟩ (exd_ok hn (relO_put ry rel)))
/-- self.f = e -/
def tOstG (b : EB) (K : PySem.W.Frag) (f : Str) (to te : TE) : TS := fun D σ H => te σ H fun y H1 => to σ H1 fun x H2 => ∃ a C : Addr, x = .ref a ∧ OexG b K C ∧ PySem.W.findIn K (.ref C) f = some none ∧
  ((H2 a = some (exo a C none) ∧ ∀ dx, H2 dx = none → dx ≠ a → D.nx σ (upd (upd H2 dx (exd dx [(f, y)])) a (exo a C (some dx)))) ∨
    ∃ (dx : Addr) (fs : List (Str × V)), H2 a = some (exo a C (some dx)) ∧ H2 dx = some (exd dx fs) ∧ fs.length ≤ 900 ∧ D.nx σ (upd H2 dx (exd dx ((f, y) :: fs))))
theorem ps_ostG {o e : Expr} {to te : TE} {p' pos : Pos} (ho : PE X o to) (he : PE X e te) (hs : swapsWith e (some (.Attribute o f p')) pos.line X.env = pure false := by rfl) : PS X (.Assign [.Attribute o f p'] e pos) (tOstG b X.K f to te) := by
  refine ⟨fun pins s σ H D I h => ?_⟩
  refine plainObj_wpAny_Assign_Attribute (thn (he.run pins s σ H _ I h) fun v s1 ⟨y, H1, I1, r1, q1⟩ => thn (ho.run pins s1 σ H1 _ I1 q1) fun u s2 ⟨x, H2, I2, r2, a, C, ex, T, hno, q⟩ => ?_) hs
  subst ex
  obtain rfl : u = Value.ref a := r2
  rcases q with ⟨ea, q⟩ | ⟨dx, fs, ea, ed, hl, q⟩
  · exact ostG_new T I2 ea hno r1 fun dx s' n ne J => ⟨σ, _, J, q dx n ne⟩
  · exact ostG_old T I2 ea ed hl hno r1 fun s' J => ⟨σ, _, J, q⟩
end
end Bx
-- needs excB
-- imports HandS.ExcInit KE.KExcSuper KE.KSuper
/-! an own exception's __init__ that says super().__init__(text) -/
namespace Bx
open PySem PySem.Spec PyProof.Rows L2
/-- what the program's main text must be: its file, no own super -/
structure MainP (P : Program) (file : Str) : Prop where
  file : ((P.main.file : Str) == file) = true
  sup : (P.main.scope.names.lookup ("super" : Str)).isSome = false
structure ScopeS (N ps : List Str) (sc : Scope) : Prop where
  kind : sc.kind = .function
  co : sc.isCoroutine = false
  gen : sc.isGenerator = false
  nd : N.Nodup
  pre : N.take ps.length = ps
  par : ∀ x ∈ ps, sc.names.lookup x = some .local
  nocell : ∀ y ∈ sc.names, y.2 ≠ .cell
  free : ∀ y ∈ sc.names, y.2 = .free → y.1 = "__class__"
  cls : sc.names.lookup ("__class__" : Str) = some .free
  sup : sc.names.lookup ("super" : Str) = some .globalImplicit
abbrev envS (qual : Str) (scope : Scope) (L f : Addr) (cd : Value) (cc : Addr) : PySem.Env := PySem.W.ksEnv qual scope L f cd cc
def cxS (CX : CXT) (P : Program) (w : World) (K : PySem.W.Frag) (mg : Str → Option Value) (base : Heap) (N : List Str) (qual : Str) (scope : Scope) (f : Addr) (cd : Value) (cc : Addr) (A : Around) (outer : List PySem.Env) (s : Shared) (H : Hp) (E : XK) : Cx where
  prog := P
  w := w
  K := K
  mg := mg
  base := base
  A := A.deeper (envS qual scope s.heap.objs.size f cd cc)
  N := N
  s_0 := s
  H_0 := H
  env := envS qual scope s.heap.objs.size f cd cc
  outer := outer
  stack := envS qual scope s.heap.objs.size f cd cc :: outer
  ex := []
  calm := true
  fn := fun _ => false
  pn := []
  xe := fun e s' => wpAny (model P w) (A.deeper (envS qual scope s.heap.objs.size f cd cc)) (leaving (envS qual scope s.heap.objs.size f cd cc) e) (fun _ s'' => CX outer H s E e s'') (fun e' s'' => CX outer H s E e' s'') s'
theorem zip_rev {ps : List Str} {us : List Value} (nd : ps.Nodup) {i : Nat} {x : Str} {u : Value} (hx : ps[i]? = some x) (hu : us[i]? = some u) : (ps.zip us).reverse.lookup x = some u := by
  have key : ∀ {l : List (Str × Value)}, (l.map (·.1)).Nodup → (x, u) ∈ l → l.lookup x = some u := by
    intro l
    induction l with
    | nil => intro _ h; cases h
    | cons p l ih =>
      intro nd h
      obtain ⟨y, v⟩ := p
      have nd' := List.nodup_cons.mp (show (y :: l.map (·.1)).Nodup from nd)
      rcases List.mem_cons.mp h with e | h
      · cases e
        simp [List.lookup]
      · have ne : x ≠ y := fun z => nd'.1 (by rw [← z]; exact List.mem_map.mpr ⟨(x, u), h, rfl⟩)
        have eb : (x == y) = false := by simpa using ne
        simp only [List.lookup, eb]
        exact ih nd'.2 h
  refine key ?_ ?_
  · rw [List.map_reverse, (List.reverse_perm _).nodup_iff]
    exact nd.sublist (by
      clear hx hu nd
      induction ps generalizing us with
      | nil => exact List.nil_sublist _
      | cons p ps ih =>
        cases us with
        | nil => exact List.nil_sublist _
        | cons u us =>
          rw [List.zip_cons_cons, List.map_cons]
          exact (ih (us := us)).cons_cons p)
  · rw [List.mem_reverse]
    refine List.mem_iff_getElem?.mpr ⟨i, ?_⟩
    rw [List.getElem?_zip_eq_some]
    exact ⟨hx, hu⟩
theorem inv_startS {CX : CXT} {P : Program} {w : World} {K : PySem.W.Frag} {mg : Str → Option Value} {base : Heap} {N ps : List Str} {qual : Str} {scope : Scope} {f cc : Addr} {cd : Value} {A : Around} {outer : List PySem.Env} {s : Shared} {H : Hp} {E : XK} {us : List Value} {vs : List V} {h₁ : Heap} {tk : Nat}
    (S : ScopeS N ps scope) (hd : A.handled = none) (e0 : Env0 P w K mg base A outer s H) (hl : vs.length = ps.length) (r : Vals vs us) (hcell : ∃ o, base.get? cc = some o ∧ ∃ v, o.data = .cell v)
    (hns : h₁.Ns s.heap.objs.size fun x => (ps.zip us).reverse.lookup x) (kp : ∀ b o, s.heap.get? b = some o → h₁.get? b = some o) :
    Inv (cxS CX P w K mg base N qual scope f cd cc A outer s H E) [] (L2.start N vs) H { s with heap := h₁, toks := tk } := by
  have hpl : ps.length ≤ N.length := by have := congrArg List.length S.pre; rw [List.length_take] at this; omega
  have noA : ∀ b : Addr, b ∉ (cxS CX P w K mg base N qual scope f cd cc A outer s H E).ex := fun b z => absurd (show b ∈ ([] : List Addr) from z) (by simp)
  have cl : ∀ {y c}, [(("__class__" : Str), cc)].lookup y = some c → y = "__class__" ∧ c = cc := fun {y c} e => by
    by_cases q : y = "__class__"
    · rw [q] at e
      simp [List.lookup] at e
      exact ⟨q, e.symm⟩
    · have eb : (y == ("__class__" : Str)) = false := by simpa using q
      simp [List.lookup, eb] at e
  obtain ⟨oc, hoc, v, hv⟩ := hcell
  refine ⟨⟨e0.mod, S.kind, rfl, rfl, Nat.le_refl _, fun y z c h1 h2 => ?_, fun y hy => ?_, fun y c z _ => (by cases z), fun _ => hd, Around.frames_deeper e0.frames, .inr ⟨rfl, rfl⟩, fun b z => absurd z (noA b), e0.bs, e0.bsz, fun b _ _ => noA b, fun b z => absurd z (noA b), e0.funs, e0.frf⟩,
    rfl, e0.bare, Un.kept kp, ⟨_, hns, fun i y v h1 h2 h3 => ?_⟩, fun y c h => ?_, e0.hok.fresh (Nat.le_refl _), fun y c h => ?_, fun p hp => absurd (show p ∈ ([] : List (Addr × Obj)) from hp) (by simp), e0.hok.kept kp, ?_⟩
  · exact (cl h1).1.trans (cl h2).1.symm
  · have hy : scope.names.lookup y = some .cell ∨ scope.names.lookup y = some .free := hy
    rcases hy with hy | hy
    · exact absurd rfl (S.nocell _ (PySem.mem_of_lookup hy))
    · have e := S.free _ (PySem.mem_of_lookup hy) rfl
      refine ⟨cc, ?_⟩
      show [(("__class__" : Str), cc)].lookup y = some cc
      rw [show y = "__class__" from e]
      simp [List.lookup]
  · have hi : i < vs.length := by
      unfold L2.start at h2
      by_cases hi : i < vs.length
      · exact hi
      · rw [List.getElem?_append_right (by simpa using hi), List.getElem?_replicate] at h2
        split at h2 <;> cases h2
    have ha : vs[i]? = some v := by
      unfold L2.start at h2
      rw [List.getElem?_append_left (by simpa using hi), List.getElem?_map] at h2
      cases e : vs[i]? with
      | none => rw [e] at h2; cases h2
      | some a => rw [e] at h2; cases h2; rfl
    obtain ⟨u, hu, rv⟩ := r.get ha
    have hp : ps[i]? = some y := by
      rw [← S.pre, List.getElem?_take_of_lt (by omega)]; exact h1
    have ndP : ps.Nodup := by rw [← S.pre]; exact S.nd.sublist (List.take_sublist _ _)
    exact ⟨u, rv, .inl ⟨S.par y (List.mem_of_getElem? hp), zip_rev ndP hp hu⟩⟩
  · obtain ⟨_, e⟩ := cl h
    rw [e]
    exact ⟨v, oc, kp _ _ (e0.bs _ _ hoc).1, hv⟩
  · obtain ⟨_, e⟩ := cl h
    rw [e]
    exact (e0.bs _ _ hoc).2
  · unfold L2.start
    rw [List.length_append, List.length_map, List.length_replicate, hl]
    show ps.length + (N.length - _) = N.length
    omega
/-- what the written part says of C's own __init__ at f, its cell at cc, its code at cd -/
structure SupF (eb : EB) (P : Program) (K : PySem.W.Frag) (C f cc cd : Addr) (fd : FuncData) : Prop where
  oex : OexG eb K C
  fn : ∃ oc od osl, K.lookup f = some ⟨oc, od, .func fd, osl⟩
  self : ∃ ar, (fd.params.posonlyargs ++ fd.params.args).head? = some ar ∧ ar.arg = "self"
  code : ∃ (cl : Value) (cdd : Option Addr) (vs : Array Value) (ccs : Array (Option Value)) (file : Str) (tf : PySem.Tok), K.lookup cd = some ⟨cl, cdd, .fields vs, ccs⟩ ∧ vs[2]? = some (.str file tf) ∧ MainP P file
  cell : ∃ (cl : Value) (cld : Option Addr) (csl : Array (Option Value)), K.lookup cc = some ⟨cl, cld, .cell (some (.ref C)), csl⟩
  sub : PySem.W.mroIn K C (.ref C) = some true
  sup : PySem.W.ks_superIn K C C "__init__" = some (some (.builtin eb.ini))
  subB : PySem.W.subIn K (.ref C) (.type eb.nm) = some true
  stat : PySem.W.nsIn K cStatics "thirdparty.any" = some none
section
variable {eb : EB} {prog : Program} {w : World} {M : Model} {A : Around} {E : Value → Shared → Prop} {h : Heap} {g : Array GenState} {d : Drawn} {t : Nat} {os : OsState}
variable {nm q : Str} {C N : Addr} {bs bm : List Value} {hdct : Bool} {sn : List Str} {sub : List Value} {ab : Bool} {col : Option Bool} {dd : Option Addr} {k0 k1 k2 k3 k5 : Option Value}
/-- the bound __init__ of ValueError, called -/
theorem call_veinit {u e t0 : Addr} {rest : List Value} {Q : Value → Shared → Prop}
    (hC : h.get? C = some (excClassObj nm q C N bs bm hdct sn sub ab col dd k0 k1 k2 k3 k5 eb.new)) (he : h.get? e = some (HandSPX.excO C t0)) (hu : h.get? u = some (PySem.W.kxs_mw eb.ini e)) (hrest : rest.length ≤ sizeLine)
    (hq : ∀ h' t1, (∀ b o, b ≠ e → h.get? b = some o → h'.get? b = some o) → h'.get? e = some (HandSPX.excO C t1) → Q .none ⟨h', g, d, t, os⟩) :
    wpAny (model prog w) A (call (.ref u) rest) Q E ⟨h, g, d, t, os⟩ := by
  refine wpAny_call (codeAny_of_tree ?_)
  show wpAny _ A.in1 (callAny (.ref u) ⟨rest, []⟩) _ _ _
  unfold callAny
  refine wpAny_bind (wpAny_load hu ?_)
  have k1 : (Value.type "method-wrapper" == Value.type "method" || Value.type "method-wrapper" == Value.type "builtin_function_or_method" || Value.type "method-wrapper" == Value.type "method-wrapper") = true := by decide
  simp only [PySem.W.kxs_mw, k1, if_true]
  refine PySem.W.KFB.if_so (by decide) ?_
  refine wpAny_bind (PySem.W.check_bound_init eb.ex.toExcCallFacts hC he rfl ?_)
  refine wpAny_bind (wpAny_pure (wpAny_pure ?_))
  refine ⟨plainId_quiet eb.ex.init.plain _, codeAny_builtin eb.ex.initEntry ?_⟩
  exact PySem.W.exc_init_tree (cls := .ref C) (t0 := t0) (dv := none) (c2 := .none) (c3 := .none) (b4 := .bool false) he hrest fun h' k e' _ => hq h' _ k e'
end
section
variable {eb : EB} {CX : CXT} {P : Program} {w : World} {K : PySem.W.Frag} {mg : Str → Option Value} {base : Heap} {N : List Str} {name qual : Str} {params : Arguments} {body : List Stmt} {scope : Scope} {dV kV doc pm ct : Value} {an : Option Addr} {f cc cd C a : Addr} {A : Around} {outer : List PySem.Env} {s0 s : Shared} {H0 H : Hp} {E : XK} {σ : L2.St} {ps : List Str}
/-- super().__init__(e) -/
theorem super_ok {e : Expr} {ta : TA} {p0 p1 p2 p3 p4 : Pos} {q : Hp → Prop} {pl : Sem Bool} (T : SupF eb P K C f cc cd (PySem.W.ksFn name qual params body scope dV kV doc pm an (.ref cd) ct cc)) (S : ScopeS N ps scope) (hmg : mg ("super" : Str) = none)
    (hN : N[0]? = some ("self" : Str)) (hself : scope.names.lookup ("self" : Str) = some .local) (hσ : σ[0]? = some (some (.ref a)))
    (I : Inv (cxS CX P w K mg base N qual scope f (.ref cd) cc A outer s0 H0 E) [] σ H s) (ha : PA (cxS CX P w K mg base N qual scope f (.ref cd) cc A outer s0 H0 E) [e] ta) (hea : H a = some (exo a C none))
    (h : ta σ H fun vs H1 => vs.length ≤ 1000 ∧ H1 a = some (exo a C none) ∧ q H1)
    (hev : eval (.Call (.Attribute (.Call (.Name "super" p0) [] [] p1) "__init__" p2) [e] [] p3) (envS qual scope s0.heap.objs.size f (.ref cd) cc) = (do
      let ov ← attributeBase (.Call (.Name "super" p0) [] [] p1) "__init__" (envS qual scope s0.heap.objs.size f (.ref cd) cc) (eval (.Call (.Name "super" p0) [] [] p1) (envS qual scope s0.heap.objs.size f (.ref cd) cc))
      standAt p2.atName
      let (fn, first) ← holding [ov] (getMethod ov "__init__" pl)
      callWith p3 fn first (backTo p3 (starEach [e] (envS qual scope s0.heap.objs.size f (.ref cd) cc))) []) := by rfl)
    (hi : interactive (envS qual scope s0.heap.objs.size f (.ref cd) cc) = false := by rfl) (hsw : swapsWith (.Call (.Attribute (.Call (.Name "super" p0) [] [] p1) "__init__" p2) [e] [] p3) none p4.line (envS qual scope s0.heap.objs.size f (.ref cd) cc) = pure false := by rfl)
    (he : starEach [e] (envS qual scope s0.heap.objs.size f (.ref cd) cc) = (false, eval e (envS qual scope s0.heap.objs.size f (.ref cd) cc)) :: starEach [] (envS qual scope s0.heap.objs.size f (.ref cd) cc) := by rfl) :
    _root_.PySem.wpAt (model P w) (A.deeper (envS qual scope s0.heap.objs.size f (.ref cd) cc)) (.func body (envS qual scope s0.heap.objs.size f (.ref cd) cc)) (exec (.Expr (.Call (.Attribute (.Call (.Name "super" p0) [] [] p1) "__init__" p2) [e] [] p3) p4) (envS qual scope s0.heap.objs.size f (.ref cd) cc))
      (fun fl s' => fl = .next ∧ ∃ H', Inv (cxS CX P w K mg base N qual scope f (.ref cd) cc A outer s0 H0 E) [] σ H' s' ∧ q H') (cxS CX P w K mg base N qual scope f (.ref cd) cc A outer s0 H0 E).xe s := by
  obtain ⟨oc, od, osl, lkf⟩ := T.fn
  obtain ⟨ar, har, ear⟩ := T.self
  obtain ⟨ccl, cdd, vsC, ccs, file, tf, lkc, hvs, MP⟩ := T.code
  obtain ⟨kcl, kcd, ksl, lkcell⟩ := T.cell
  obtain ⟨nm, q', N', bs, bm, sn, sub, ab, col, dd, k0, k1, k2, k3, k5, hC, hbm⟩ := T.oex.cls
  obtain ⟨mb, hblt, hboot⟩ := I.mod.blt
  obtain ⟨t1, hoa⟩ := exo_at I.hok hea
  obtain ⟨m, hns, hlk⟩ := I.loc
  have hD := I.kIn _ _ hC
  have hcl : PySem.W.clsIn K C = some { name := nm, bases := bs, mro := .ref C :: bm, ns := N', qualname := q', hasDict := true, slotNames := sn, subclasses := sub, abstract := ab, collection := col, hasDel := false } := by unfold PySem.W.clsIn; rw [hC] <;> rfl
  refine PySem.ks_wpAt_Expr_any ?_ hi hsw
  refine PySem.ks_wpAt_MethodCall (pl := pl) ?_ hev
  refine PySem.ks_wpAt_super_base S.sup S.cls (by decide) rfl (I.kIn _ _ lkf) rfl har rfl (I.kIn _ _ lkc) rfl hvs MP.file MP.sup ?_
  refine PySem.W.ks_loadName_global S.kind S.sup (Calls.loadGlobal_builtin (by exact I.mod.glob.keeps I.bk) hmg (by exact hblt.keeps I.bk) ((hboot _ (by decide)).trans (show bootBuiltins "super" = some (.type "super") by first | rfl | kernel_rfl)) ⟨rfl, ?_⟩)
  refine wpAny_loadName_free S.kind S.cls (by rfl) ⟨_, I.kIn _ _ lkcell, rfl⟩ ?_
  rw [ear]
  obtain ⟨ua, ra, hm⟩ := hlk 0 "self" (.ref a) hN hσ (.inl hself)
  cases ra
  have hma : m "self" = some (.ref a) := by
    rcases hm with ⟨_, z⟩ | ⟨z, _⟩
    · exact z
    · have z' : scope.names.lookup ("self" : Str) = some .cell ∨ scope.names.lookup ("self" : Str) = some .free := z
      rw [hself] at z'
      rcases z' with z' | z' <;> cases z'
  refine wpAny_loadName_local S.kind hself hns hma ?_
  obtain ⟨hp, g, dr, tk, os⟩ := s
  refine PySem.ks_wpAny_isType_cls hD rfl ⟨rfl, ?_⟩
  refine PySem.ks_wpAny_call_super (x := a) (C := C) (D := C) hD rfl hoa rfl (fun c e => by cases e) (PySem.W.looks_mroIn I.kIn T.sub) fun h' eso k => ?_
  have I1 : Inv (cxS CX P w K mg base N qual scope f (.ref cd) cc A outer s0 H0 E) [] σ H ⟨h', g, dr, tk, os⟩ := I.kept (t' := tk) k
  have hD1 := k _ _ hD
  have hoa1 := k _ _ hoa
  have ne : a ≠ C := fun z => by
    rw [z] at hoa1
    have hD1' : h'.get? C = _ := hD1
    rw [hoa1] at hD1'
    have := congrArg Obj.data (Option.some.inj hD1')
    cases this
  have hal : PySem.W.alongIn K "__init__" (((Value.ref C :: bm).dropWhile (· != .ref C)).drop 1) = some (some (.builtin eb.ini)) := by
    have := T.sup
    unfold PySem.W.ks_superIn at this
    rw [hcl] at this
    exact this
  have IA : PySem.W.InstAt h' a { cls := .ref C, dict := none, data := .fields #[.ref t1, .none, .none, .none, .bool false, .none] } C none := ⟨hoa1, rfl, rfl, trivial⟩
  refine PySem.W.kxs_getMethod eb.kx eso (PySem.W.looks_opaque I1.kIn T.stat) (l₀ := .ref C :: bm) (fun A Q E s k q => wpAny_bind ((PySem.W.looks_clsIn I1.kIn hcl) A _ E s k (wpAny_pure q))) rfl I1.kIn hal (IA.type.andThen (PySem.W.looks_subIn I1.kIn T.subB)) ne (by decide) ?_
  have I2 : Inv (cxS CX P w K mg base N qual scope f (.ref cd) cc A outer s0 H0 E) [] σ H ⟨h'.push (PySem.W.kxs_mw eb.ini a), g, dr, tk + 1, os⟩ := I1.kept (t' := tk + 1) fun b o e => Heap.get?_push_of_some _ e
  have I3 := I2.pins_of (pins' := [(h'.objs.size, PySem.W.kxs_mw eb.ini a)]) fun p hp => by
    rw [List.mem_singleton.mp hp]
    exact ⟨Heap.get?_push_size _ rfl, I1.hok.fresh (Nat.le_refl _), Nat.ne_of_gt I1.lt, I1.nofs (Nat.le_refl _), fun v z => by cases z⟩
  have hr : wpAny (model P w) (A.deeper (envS qual scope s0.heap.objs.size f (.ref cd) cc)) (spliced (backTo p3 (starEach [e] (envS qual scope s0.heap.objs.size f (.ref cd) cc)))) _ _ ⟨h'.push (PySem.W.kxs_mw eb.ini a), g, dr, tk + 1, os⟩ := ha.run p3 _ _ σ H _ I3 h
  show wpAny _ _ (callWith p3 (.ref h'.objs.size) [] (backTo p3 (starEach [e] (envS qual scope s0.heap.objs.size f (.ref cd) cc))) []) _ _ _
  rw [he] at hr ⊢
  refine PySem.W.kxs_callWith (i := eb.ini) (x := a) (by rfl) (Calls.evalArgs_plain ?_)
  refine wpAny_mono hr (fun us s1 hh => ?_) fun _ _ z => z
  obtain ⟨vs, H1, I4, r1, hlen, hea1, hq⟩ := hh
  refine ⟨(I4.pin _ (List.mem_append_right _ (List.mem_singleton.mpr rfl))).1, ?_⟩
  have hu := (I4.pin _ (List.mem_append_right _ (List.mem_singleton.mpr rfl))).1
  obtain ⟨t2, ho2⟩ := exo_at I4.hok hea1
  obtain ⟨hp2, g2, dr2, tk2, os2⟩ := s1
  show wpAny _ _ (call (.ref h'.objs.size) us) _ _ _
  refine call_veinit (I4.kIn _ _ hC) ho2 hu ?_ fun h5 t5 k5 e5 => ?_
  · rw [← Paired.length r1, sizeLine_eq]
    omega
  · have J := I4.write (t' := tk2) (x := a) (e := a) (o := exo a C none) (by rw [hea1]; exact True.intro) (.inl rfl) k5 ⟨_, e5⟩ (exo_ok e5)
    have eu : upd H1 a (exo a C none) = H1 := by
      funext b
      by_cases hb : b = a
      · rw [hb, upd_same, hea1]
      · rw [upd_ne hb]
    rw [eu] at J
    exact ⟨rfl, H1, J.pins_of (fun p hp => by cases hp), hq⟩
/-- THE RULE for such an __init__ -/
theorem init_ok {e : Expr} {rest : List Stmt} {p0 p1 p2 p3 p4 : Pos} {k : Nat} {sp : Sp} {pl : Str → Addr → Addr → Sem Bool}
    (T : SupF eb P K C f cc cd (PySem.W.ksFn name qual params (.Expr (.Call (.Attribute (.Call (.Name "super" p0) [] [] p1) "__init__" p2) [e] [] p3) p4 :: rest) scope dV kV doc pm an (.ref cd) ct cc)) (hcd : PySem.W.codeIn K (.ref cd) qual = true) (S : ScopeS N ps scope) (hmg : mg ("super" : Str) = none)
    (hN : N[0]? = some ("self" : Str)) (hself : scope.names.lookup ("self" : Str) = some .local) (len : ∀ vs H Q E, sp vs H Q E → vs.length = ps.length)
    (hbody : ∀ (A : Around) (outer : List PySem.Env) (s : Shared) (H : Hp) (vs : List V) (Q : VK) (E : XK), Room k (A.deeper (envS qual scope s.heap.objs.size f (.ref cd) cc)) → sp vs H Q E → ∃ (a : Addr) (ta : TA) (t : TS), (L2.start N vs)[0]? = some (some (.ref a)) ∧ H a = some (exo a C none) ∧
      PA (cxS CX P w K mg base N qual scope f (.ref cd) cc A outer s H E) [e] ta ∧ PSs (cxS CX P w K mg base N qual scope f (.ref cd) cc A outer s H E) rest t ∧
      ta (L2.start N vs) H fun ws H1 => ws.length ≤ 1000 ∧ H1 a = some (exo a C none) ∧ t { nx := fun _ H' => Q .non H', rt := Q } (L2.start N vs) H1)
    (hev : ∀ L : Addr, eval (.Call (.Attribute (.Call (.Name "super" p0) [] [] p1) "__init__" p2) [e] [] p3) (envS qual scope L f (.ref cd) cc) = (do
      let ov ← attributeBase (.Call (.Name "super" p0) [] [] p1) "__init__" (envS qual scope L f (.ref cd) cc) (eval (.Call (.Name "super" p0) [] [] p1) (envS qual scope L f (.ref cd) cc))
      standAt p2.atName
      let (fn, first) ← holding [ov] (getMethod ov "__init__" (pl qual f L))
      callWith p3 fn first (backTo p3 (starEach [e] (envS qual scope L f (.ref cd) cc))) []))
    (hi : ∀ L : Addr, interactive (envS qual scope L f (.ref cd) cc) = false) (hsw : ∀ L : Addr, swapsWith (.Call (.Attribute (.Call (.Name "super" p0) [] [] p1) "__init__" p2) [e] [] p3) none p4.line (envS qual scope L f (.ref cd) cc) = pure false)
    (he : ∀ L : Addr, starEach [e] (envS qual scope L f (.ref cd) cc) = (false, eval e (envS qual scope L f (.ref cd) cc)) :: starEach [] (envS qual scope L f (.ref cd) cc)) :
    FnOk P w K mg base CX (k + 1) f (PySem.W.ksFn name qual params (.Expr (.Call (.Attribute (.Call (.Name "super" p0) [] [] p1) "__init__" p2) [e] [] p3) p4 :: rest) scope dV kV doc pm an (.ref cd) ct cc) ps sp := by
  obtain ⟨oc, od, osl, lk⟩ := T.fn
  obtain ⟨kcl, kcd, ksl, lkcell⟩ := T.cell
  refine ⟨len, fun A outer s H args us vs Q E hr e0 hb r hsp => ?_⟩
  have hl := len _ _ _ _ hsp
  have KX : K.In s.heap := e0.mod.kin.keeps fun b o e => (e0.bs b o e).1
  have lim : s.heap.NoLimit := e0.mod.nolimit.keeps fun b o e => (e0.bs b o e).1
  refine PySem.ks_codeAny_call_defAt hr.depth (KX _ _ lk) rfl lim (PySem.W.codeRec_of KX hcd) rfl hb S.nocell (fun ⟨n, v⟩ hy => S.par n (List.of_mem_zip hy).1) (fun h₀ hns kp => ?_) S.co S.gen S.kind
  obtain ⟨a, ta, t, h0, hea, pa, pr, q⟩ := hbody A outer s H vs Q E (hr.deeper _) hsp
  have I : Inv (cxS CX P w K mg base N qual scope f (.ref cd) cc A outer s H E) [] (L2.start N vs) H { s with heap := h₀, toks := s.toks + (ps.zip us).length } := inv_startS S hr.hd e0 hl r ⟨_, e0.mod.kin _ _ lkcell, _, rfl⟩ hns kp
  refine PySem.ks_wpAt_execs_cons ?_
  refine PySem.ks_wpAt_mono (super_ok (q := fun H1 => t { nx := fun _ H' => Q .non H', rt := Q } (L2.start N vs) H1) T S hmg hN hself h0 I pa hea q (hev _) (hi _) (hsw _) (he _)) (fun fl s' hh => ?_) fun _ _ z => z
  obtain ⟨rfl, H1, I1, q1⟩ := hh
  refine PySem.wpAt_of_wpAny (wpAny_mono (pr.run [] s' _ H1 _ I1 q1) (fun fl s2 hs => ?_) fun _ _ z => z)
  have fin : ∀ {σ' : L2.St} {H' : Hp} {v : V} {u : Value}, Inv (cxS CX P w K mg base N qual scope f (.ref cd) cc A outer s H E) [] σ' H' s2 → L2.RelV v u → Q v H' → CE outer P w H s Q u s2 :=
    fun {σ' H' v u} J rv q => ⟨v, H', J.os, J.bare, J.base, J.hok, rv, q⟩
  cases fl with
  | ret u =>
    obtain ⟨v, σ', H', J, rv, q⟩ := hs
    exact fin J rv q
  | next =>
    obtain ⟨σ', H', J, q⟩ := hs
    exact fin (v := V.non) (u := Value.none) J rfl q
  | brk =>
    obtain ⟨_, _, _, q⟩ := hs
    exact False.elim q
  | cont =>
    obtain ⟨_, _, _, q⟩ := hs
    exact False.elim q
end
end Bx
-- needs excS
-- imports HandS.ExcField HandS.FStr HandS.TryMany HandS.ExcOwn
/-! raise C(), raise C(e): C an own class over ValueError with a tag and, where it has an argument, one field -/
namespace Bx
open PySem PySem.Spec PyProof.Rows L2
/-- all that is known of the class x: C its place, fI its __init__ -/
structure ExcK (eb : EB) (K : PySem.W.Frag) (C fI : Addr) : Prop where
  oex : OexG eb K C
  ini : PySem.W.findIn K (.ref C) "__init__" = some (some (.ref fI))
  fun_ : PySem.W.typeIn K (.ref fI) = some (.type "function")
  xf : XfC K C
  tag : PySem.W.findIn K (.ref C) "tag" = some none
/-- __init__ without an argument -/
def spI0 (C : Addr) (nm : Str) : Sp := fun vs H Q _ => ∃ a, vs = [.ref a] ∧ H a = some (exo a C none) ∧ ∀ dx, H dx = none → dx ≠ a → Q .non (upd (upd H dx (exd dx [("tag", .str nm)])) a (exo a C (some dx)))
/-- __init__ with one -/
def spI1 (C : Addr) (nm fld : Str) (Ok : V → Hp → Prop) : Sp := fun vs H Q _ => ∃ a v, vs = [.ref a, v] ∧ H a = some (exo a C none) ∧ Ok v H ∧ ∀ dx, H dx = none → dx ≠ a → Q .non (upd (upd (upd H dx (exd dx [("tag", .str nm)])) a (exo a C (some dx))) dx (exd dx [(fld, v), ("tag", .str nm)]))
section
variable {eb : EB} {X : Cx} {C fI : Addr} {fd : FuncData} {ps : List Str} {sp : Sp} {k : Nat} {CX : CXT} {pins : List (Addr × Obj)} {σ : L2.St} {H : Hp} {Q : XK} {s : Shared} {us : List Value} {vs : List V}
/-- the class called -/
theorem make_exc (T : ExcK eb X.K C fI) (F1 : FnOk X.prog X.w X.K X.mg X.base CX k fI fd ps sp) (hr : Room (k + 1) X.A) (hb : Binds X.K fd ps []) (hx : Passes CX X (fun _ _ _ => False)) (I : Inv X pins σ H s) (r : Vals vs us) (hz : vs.length ≤ 1000)
    (hq : ∀ a, H a = none → sp (.ref a :: vs) (upd H a (exo a C none)) (fun v H2 => v = .non ∧ ∃ (d : Addr) (fs : List (Str × V)), H2 a = some (exo a C (some d)) ∧ H2 d = some (exd d fs) ∧ H d = none ∧ Q (.ref C) (some d) (upd (del H2 a) d (.xd fs))) (fun _ _ _ => False)) :
    wpAny (model X.prog X.w) X.A (call (.ref C) us) (MkP X pins σ Q) X.xe s := by
  obtain ⟨nm, q, N, bs, bm, sn, sub, ab, col, dd, k0, k1, k2, k3, k5, hC, hbm⟩ := T.oex.cls
  obtain ⟨hp, g, dr, tk, os⟩ := s
  have le : hp.objs.size ≤ hp.objs.size + 1 := Nat.le_succ _
  have kept : ∀ b o, hp.get? b = some o → ((hp.push (PySem.W.kdv_tup us)).push (PySem.HandSPX.excO C hp.objs.size)).get? b = some o := fun b o e => Heap.get?_push_of_some _ (Heap.get?_push_of_some _ e)
  have at1 : ((hp.push (PySem.W.kdv_tup us)).push (PySem.HandSPX.excO C hp.objs.size)).get? (hp.objs.size + 1) = some (PySem.HandSPX.excO C hp.objs.size) := by heap_get
  have J : Inv X pins σ (upd H (hp.objs.size + 1) (exo (hp.objs.size + 1) C none)) ⟨(hp.push (PySem.W.kdv_tup us)).push (PySem.HandSPX.excO C hp.objs.size), g, dr, tk, os⟩ := I.laid (t' := tk) (o := exo (hp.objs.size + 1) C none) kept le (exo_ok at1)
  have q0 := hq (hp.objs.size + 1) (I.hok.fresh le)
  have r2 : Vals (V.ref (hp.objs.size + 1) :: vs) (Value.ref (hp.objs.size + 1) :: us) := .cons rfl r
  have hl : (Value.ref (hp.objs.size + 1) :: us ++ []).length = ps.length := by
    rw [List.append_nil, ← r2.length]
    exact F1.len _ _ _ _ q0
  have hus : us.length ≤ sizeLine := by rw [← Paired.length r, sizeLine_eq]; omega
  have hbt := hb ⟨(hp.push (PySem.W.kdv_tup us)).push (PySem.HandSPX.excO C hp.objs.size), g, dr, tk, os⟩ (Value.ref (hp.objs.size + 1) :: us) J.kIn hl
  rw [List.append_nil] at hbt
  refine wpAny_call (PySem.HandSPX.call_own eb.ex (fun Y => PySem.W.excTail_contains Y bm hbm) (I.kIn _ _ hC) (PySem.W.looks_findIn I.kIn T.ini) (fun self => PySem.W.bind_fn I.kIn self T.fun_) hus ?_)
  refine codeAny_mono (F1.run _ X.stack _ _ ⟨Value.ref (hp.objs.size + 1) :: us, []⟩ (Value.ref (hp.objs.size + 1) :: us) _ _ (fun _ _ _ => False) (hr.make C us []) (J.env0.make C us []) hbt r2 q0) fun res s' hres => ?_
  cases res with
  | error er => exact hx pins σ _ _ er s' J hres
  | ok fl =>
    cases fl with
    | next => exact False.elim hres
    | brk => exact False.elim hres
    | cont => exact False.elim hres
    | ret u =>
      obtain ⟨v, H2, os2, bare2, un2, hok2, rv, ev, d, fs, ea, ed, hd1, q2⟩ := hres
      subst ev
      obtain ⟨h2, g2, d2, t2, os'⟩ := s'
      exact ⟨rv, mk_end (raises_own T.oex.exC T.oex.tyC) I le kept un2 hok2 os2 bare2 ea ed hd1 q2⟩
end
theorem del_two {H : Hp} {a d : Addr} {o1 o2 o3 o4 : HO} (ha : H a = none) (hne : d ≠ a) : upd (del (upd (upd (upd (upd H a o1) d o2) a o3) d o4) a) d o4 = upd (upd H d o4) d o4 := by
  funext b
  by_cases hb : b = d
  · rw [hb, upd_same, upd_same]
  · rw [upd_ne hb, upd_ne hb]
    by_cases hba : b = a
    · rw [hba, del_same, upd_ne hne.symm, ha]
    · rw [del_ne hba, upd_ne hb, upd_ne hba, upd_ne hb, upd_ne hba, upd_ne hb]
theorem upd_upd {H : Hp} {d : Addr} {o o' : HO} : upd (upd H d o) d o' = upd H d o' := by
  funext b
  by_cases hb : b = d
  · rw [hb, upd_same, upd_same]
  · rw [upd_ne hb, upd_ne hb, upd_ne hb]
/-- the end of the first form, of the second -/
theorem fin0 {H : Hp} {a d C : Addr} {nm : Str} (ha : H a = none) (hne : d ≠ a) : upd (del (upd (upd (upd H a (exo a C none)) d (exd d [("tag", .str nm)])) a (exo a C (some d))) a) d (.xd [("tag", .str nm)]) = upd H d (.xd [("tag", .str nm)]) := by
  funext b
  by_cases hb : b = d
  · rw [hb, upd_same, upd_same]
  · rw [upd_ne hb, upd_ne hb]
    by_cases hba : b = a
    · rw [hba, del_same, ha]
    · rw [del_ne hba, upd_ne hba, upd_ne hb, upd_ne hba]
theorem fin1 {H : Hp} {a d C : Addr} {nm fld : Str} {v : V} (ha : H a = none) (hne : d ≠ a) : upd (del (upd (upd (upd (upd H a (exo a C none)) d (exd d [("tag", .str nm)])) a (exo a C (some d))) d (exd d [(fld, v), ("tag", .str nm)])) a) d (.xd [(fld, v), ("tag", .str nm)]) = upd H d (.xd [(fld, v), ("tag", .str nm)]) := by
  funext b
  by_cases hb : b = d
  · rw [hb, upd_same, upd_same]
  · rw [upd_ne hb, upd_ne hb]
    by_cases hba : b = a
    · rw [hba, del_same, ha]
    · rw [del_ne hba, upd_ne hb, upd_ne hba, upd_ne hb, upd_ne hba]
/-- the def at fI keeps the promise of an __init__ -/
def GoodI (eb : EB) (P : Program) (w : World) (K : PySem.W.Frag) (mg : Str → Option Value) (base : Heap) (CX : CXT) (k : Nat) (C : Addr) (x : Str) (ps : List Str) (sp : Sp) : Prop :=
  ∃ fI fd, ExcK eb K C fI ∧ FnOk P w K mg base CX k fI fd ps sp ∧ Binds K fd ps [] ∧ mg x = some (.ref C)
section
variable {eb : EB} {X : Cx} {C : Addr} {k : Nat} {CX : CXT} {x nm fld : Str} {p pos : Pos} {e : Expr} {ta : TA} {Ok : V → Hp → Prop} {ps : List Str}
theorem pmk_0 (G : GoodI eb X.prog X.w X.K X.mg X.base CX k C x ps (spI0 C nm)) (hr : Room (k + 1) X.A) (hg : Gl X x) (hx : Passes CX X (fun _ _ _ => False)) (hdb : (x == ("__debug__" : Str)) = false := by decide) :
    PMk X (.Call (.Name x p) [] [] pos) (fun _ H Q => ∀ d, H d = none → Q (.ref C) (some d) (upd H d (.xd [("tag", .str nm)]))) := by
  obtain ⟨fI, fd, T, F1, hb, hm⟩ := G
  intro pins s σ H Q I h
  refine wpAny_Call_Name_kw (ld_glob I hg hm ?_ hdb)
  refine PySem.W.callWith_K0 I.kIn T.oex.kC ?_
  refine make_exc (us := []) (vs := []) T F1 hr hb hx I .nil (Nat.zero_le _) fun a ha => ⟨a, rfl, upd_same, fun d hd hne => ⟨rfl, d, _, upd_same, by rw [upd_ne hne, upd_same], ?_, ?_⟩⟩
  · rw [upd_ne hne] at hd
    exact hd
  · rw [fin0 ha hne]
    rw [upd_ne hne] at hd
    exact h d hd
theorem pmk_1 (G : GoodI eb X.prog X.w X.K X.mg X.base CX k C x ps (spI1 C nm fld Ok)) (hr : Room (k + 1) X.A) (hg : Gl X x) (hx : Passes CX X (fun _ _ _ => False)) (ha : PA X [e] ta) (hdb : (x == ("__debug__" : Str)) = false := by decide)
    (hst : starEach [e] X.env = (false, eval e X.env) :: starEach [] X.env := by rfl) (hpl : (backTo pos (starEach [] X.env)).any (·.1) = false := by rfl) :
    PMk X (.Call (.Name x p) [e] [] pos) (fun σ H Q => ta σ H fun vs H1 => ∃ v, vs = [v] ∧ (∀ a, H1 a = none → Ok v (upd H1 a (exo a C none))) ∧ ∀ d, H1 d = none → Q (.ref C) (some d) (upd H1 d (.xd [(fld, v), ("tag", .str nm)]))) := by
  obtain ⟨fI, fd, T, F1, hb, hm⟩ := G
  intro pins s σ H Q I h
  refine wpAny_Call_Name_kw (ld_glob I hg hm ?_ hdb)
  refine PySem.W.callWith_K (h₀ := X.base) I.ok.mod.kin T.oex.kC (thn (ha.run pos pins s σ H _ I h) fun us s1 hh => ?_) hst hpl
  obtain ⟨vs, H1, I1, r1, v, rfl, ok, q⟩ := hh
  refine ⟨I1.kIn, ?_⟩
  refine make_exc T F1 hr hb hx I1 r1 (by show 1 ≤ 1000; decide) fun a ha => ⟨a, v, rfl, upd_same, ok a ha, fun d hd hne => ⟨rfl, d, _, by rw [upd_ne hne.symm, upd_same], upd_same, ?_, ?_⟩⟩
  · rw [upd_ne hne] at hd
    exact hd
  · rw [fin1 ha hne]
    rw [upd_ne hne] at hd
    exact q d hd
end
end Bx
/-! slices, kinds, places -/
namespace Bx
open PySem PySem.Spec PyProof.Rows L2
theorem cut_to {xs : List V} {n : Nat} (h : xs.length ≤ n) : cutV xs none (some (n : Int)) = xs := by
  unfold cutV
  rw [HT.sIx_none, HT.sIx_nat, Nat.min_eq_right h, List.drop_zero, Nat.sub_zero, List.take_length]
theorem cut63 {xs : List V} (h : xs.length ≤ 63) : cutV xs none (some 63) = xs := cut_to (n := 63) h
theorem cut_from1 (xs : List V) : cutV xs (some 1) none = xs.drop 1 := by
  unfold cutV
  rw [HT.sIx_none, show (1 : Int) = ((1 : Nat) : Int) from rfl, HT.sIx_nat]
  cases xs with
  | nil => rfl
  | cons x r => simp
theorem tyL {K : PySem.W.Frag} {H : Hp} {a : Addr} {xs : List V} (h : SqL K H a xs) : TyX K H (.ref a) (.type "list") := by
  rcases h with (h | ⟨o, h⟩) | ⟨o, its, n, h, c, _⟩
  · exact .base (.lst h)
  · exact .base (.frz h)
  · exact .kList h c
theorem tyT {K : PySem.W.Frag} {H : Hp} {a : Addr} {xs : List V} (h : SqT K H a xs) : TyX K H (.ref a) (.type "tuple") := by
  rcases h with (h | ⟨o, h⟩) | ⟨o, its, n, h, c, _⟩
  · exact .base (.tup h)
  · exact .fTuple h
  · exact .kTuple h c
/-- isinstance(x, T), both built-in -/
theorem isi {K : PySem.W.Frag} {H : Hp} {x : V} {a b : String} {r : Bool} {Q : VK} (t : TyX K H x (.type a)) (e : kitB a b = some r) (q : Q (.bl r) H) : rIsi K [x, .ty b] H Q :=
  ⟨x, .ty b, _, _, r, rfl, .ty b, t, kit_ty e, q⟩
theorem seqT {K : PySem.W.Frag} {H H' : Hp} {a : Addr} {xs : List V} (e : Same H H') (h : SqT K H a xs) : SqT K H' a xs := by
  rcases h with (h | ⟨o, h⟩) | h
  · exact .inl (.inl (e _ _ h))
  · exact .inl (.inr ⟨o, e _ _ h⟩)
  · exact .inr h
theorem same_new {H : Hp} {p : Addr} {o : HO} (h : H p = none) : Same H (upd H p o) := fun b u q => by rw [upd_ne (ne_of_none q h)]; exact q
/-- an object that H does not know may change -/
theorem same_mut {H H' : Hp} {p : Addr} {o : HO} (e : Same H H') (h : H p = none) : Same H (upd H' p o) := fun b u q => by rw [upd_ne (ne_of_none q h)]; exact e b u q
theorem sz {n : Nat} (h : n ≤ 100000) : n ≤ sizeLine := Nat.le_trans h (by decide)
theorem szl {n : Nat} (h : n < 100000) : n < sizeLine := Nat.lt_of_lt_of_le h (by decide)
/-- all but the object at b is as it was -/
structure Kp (b : Addr) (H H' : Hp) : Prop where
  kp : ∀ a o, a ≠ b → H a = some o → H' a = some o
  inn : ∀ c r, H b = some (.lst (.ref c :: r)) → ∃ r', H' b = some (.lst (.ref c :: r'))
instance {b : Addr} {H H' : Hp} : CoeFun (Kp b H H') (fun _ => ∀ a o, a ≠ b → H a = some o → H' a = some o) := ⟨Kp.kp⟩
theorem Kp.refl (b : Addr) (H : Hp) : Kp b H H := ⟨fun _ _ _ h => h, fun _ r h => ⟨r, h⟩⟩
theorem Kp.trans {b : Addr} {H H1 H2 : Hp} (x : Kp b H H1) (y : Kp b H1 H2) : Kp b H H2 := ⟨fun a o n h => y.kp a o n (x.kp a o n h), fun c r h => by
  obtain ⟨r1, h1⟩ := x.inn c r h
  exact y.inn c r1 h1⟩
theorem Kp.of {b : Addr} {H H' : Hp} (x : Same H H') : Kp b H H' := ⟨fun a o _ h => x a o h, fun c r h => ⟨r, x _ _ h⟩⟩
theorem Kp.put {b c : Addr} {H : Hp} {r r' : List V} (h : H b = some (.lst (.ref c :: r))) : Kp b H (L2.upd H b (.lst (.ref c :: r'))) := ⟨fun a u n h => by rw [upd_ne n]; exact h, fun c' q h2 => by
  rw [h] at h2
  cases h2
  exact ⟨_, upd_same⟩⟩
theorem Kp.new {b p : Addr} {H H' : Hp} {o : HO} (e : Kp b H H') (h : H' p = none) : Kp b H (L2.upd H' p o) := e.trans (Kp.of (same_new h))
end Bx
namespace Bx
open PySem PySem.Spec PyProof.Rows L2
theorem Kp.seq {K : PySem.W.Frag} {b a : Addr} {H H' : Hp} {xs : List V} (e : Kp b H H') (n : a ≠ b) (h : SqL K H a xs) : SqL K H' a xs := by
  rcases h with (h | ⟨o, h⟩) | h
  · exact .inl (.inl (e _ _ n h))
  · exact .inl (.inr ⟨o, e _ _ n h⟩)
  · exact .inr h
end Bx
namespace Bx
open PySem PySem.Spec PyProof.Rows L2
theorem cut_from (xs : List V) (n : Nat) : cutV xs (some (n : Int)) none = xs.drop n := by
  unfold cutV
  rw [HT.sIx_none, HT.sIx_nat]
  by_cases h : n ≤ xs.length
  · rw [Nat.min_eq_left h]
    exact List.take_of_length_le (by rw [List.length_drop]; exact Nat.le_refl _)
  · rw [Nat.min_eq_right (by omega), Nat.sub_self, List.take_zero, List.drop_eq_nil_of_le (by omega)]
theorem atI_nat' {α : Type} {xs : List α} {j : Nat} (h : j < xs.length) : atI xs (j : Int) = some xs[j] := atI_nat (List.getElem?_eq_getElem h)
end Bx
-- needs lists
-- imports HandS.ClsMeth HandS.HeadNt
/-! own classes: made by name or through a local name, classmethods without arguments, `in` by an own __contains__; a head that also reads defs at any address -/
namespace Bx
open PySem PySem.Spec PyProof.Rows L2
section
variable {X : Cx} {CX : CXT} {k i : Nat} {C f pa g : Addr} {mc : Value} {ps : List Str} {sp : Sp} {E : XK} {x m : Str} {p pos apos : Pos} {o e : Expr} {es : List Expr} {t : TA} {ta : TE}
theorem pe_mkG (M : Mk X.K C f) (G : GoodM X.prog X.w X.K X.mg X.base CX k f ps sp) (hr : Room (k + 1) X.A) (hg : Gl X x) (hm : X.mg x = some (.ref C)) (hx : Passes CX X E)
    (ha : PA X (e :: es) t) (hdb : (x == ("__debug__" : Str)) = false := by decide) (he : starEach (e :: es) X.env = (false, eval e X.env) :: starEach es X.env := by rfl) (hpl : (backTo pos (starEach es X.env)).any (·.1) = false := by rfl) :
    PE X (.Call (.Name x p) (e :: es) [] pos) (tMake C sp [] E t) := by
  obtain ⟨fd, F, b⟩ := G
  exact pe_make M F hr hg hm b .nil hx ha hdb he hpl
/-- a local name that holds a class, called -/
def tMakeV (i : Nat) (C : Addr) (sp : Sp) (E : XK) (t : TA) : TE := fun σ H Q => σ[i]? = some (some (.ref C)) ∧ t σ H fun vs H1 => ∀ x dx, H1 x = none → H1 dx = none → dx ≠ x →
  sp (.ref x :: (vs ++ [])) (upd (upd H1 dx (.own x)) x (.ins C dx [])) (fun v H2 => v = .non ∧ Q (.ref x) H2) E
theorem pe_mkV (M : Mk X.K C f) (G : GoodM X.prog X.w X.K X.mg X.base CX k f ps sp) (hr : Room (k + 1) X.A) (hN : X.N[i]? = some x) (hv : Vis X.env.scope x) (hx : Passes CX X E)
    (ha : PA X (e :: es) t) (hdb : (x == ("__debug__" : Str)) = false := by decide) (hcd : (x == ("__classdict__" : Str)) = false := by decide) (he : starEach (e :: es) X.env = (false, eval e X.env) :: starEach es X.env := by rfl) (hpl : (backTo pos (starEach es X.env)).any (·.1) = false := by rfl) :
    PE X (.Call (.Name x p) (e :: es) [] pos) (tMakeV i C sp E t) := by
  obtain ⟨fd, F, b⟩ := G
  refine ⟨fun pins s σ H Q I h => ?_⟩
  obtain ⟨hs, ht⟩ := h
  refine wpAny_Call_Name_kw (thn ((pe_var (pos := p) hN hv hdb hcd).run pins s σ H (fun v H1 => v = .ref C ∧ H1 = H) I ⟨.ref C, hs, rfl, rfl⟩) fun u s1 ⟨v, H1, I1, r1, q1⟩ => ?_)
  obtain ⟨rfl, rfl⟩ := q1
  cases r1
  refine PySem.W.callWith_K (h₀ := X.base) I.ok.mod.kin M.kp (thn (ha.run pos pins s1 σ _ _ I1 ht) fun us s2 ⟨vs, H2, I2, r, q⟩ => ⟨I2.kIn, ?_⟩) he hpl
  exact run_make M F hr b .nil hx I2 r q
/-- C.m() of a classmethod -/
theorem pe_cmeth0 {pl : Sem Bool} (he : PE X o ta) (r : ClX.CRead X.K C mc) (c : ClX.CMet X.K C mc m pa g) (F : FnR X.prog X.w X.K X.mg X.base CX k g sp) (hr : Room k X.A) (hx : Passes CX X E)
    (ht : eval (.Call (.Attribute o m apos) [] [] pos) X.env = (do
      let ov ← eval o X.env
      standAt apos.atName
      let (f, first) ← holding [ov] (getMethod ov m pl)
      callWith pos f first (backTo pos (starEach [] X.env)) (backToKw pos (keywordEach [] X.env))) := by rfl) :
    PE X (.Call (.Attribute o m apos) [] [] pos) (ClX.tCMeth C sp E ta tNil) := by
  refine ⟨fun pins s σ H Q I h => ?_⟩
  refine PySem.W.methodCall_KW (pl := pl) (thn (he.run pins s σ H _ I h) fun u s1 ⟨x, H1, I1, rx, ex, q⟩ => ?_) ht
  subst ex
  obtain rfl : u = Value.ref C := rx
  refine ClX.getmethcm_ok I1 r c fun s2 I2 => ?_
  exact PySem.W.callWith_M0 (K := X.K) (first := []) ⟨ClX.pin_at I2, I2.kIn⟩ c.fi (ClX.run_cm (us := []) F hr hx I2 .nil q)
/-- x in o, o an instance of the class at C with an own __contains__ -/
def rInC (C : Addr) (sp : Sp) (E : XK) : R2 := fun x y H Q => ∃ a dx fs, y = .ref a ∧ H a = some (.ins C dx fs) ∧ sp [.ref a, x] H (fun v H' => ∃ b : Bool, v = .bl b ∧ Q (.bl b) H') E
theorem op_inC (hs : Meth X.K C "__contains__" f) (F : FnR X.prog X.w X.K X.mg X.base CX k f sp) (hr : Room k X.A) (hx : Passes CX X E) : OpR X (compareOp .In) (rInC C sp E) := by
  intro pins s σ H x y v u Q I rx ry h
  obtain ⟨a, dx, fs, rfl, ha, hsp⟩ := h
  obtain rfl : u = Value.ref a := ry
  obtain ⟨mA, O, _, _, _, _⟩ := ins_get I.hok ha
  obtain ⟨od, J, _⟩ := O.look
  obtain ⟨m, hF⟩ := I.fr
  refine PySem.W.in_K hF I.ok.mod.kin J hs.at_ (by exact hs.fn) ?_
  refine thn (wpAny_call (run_fnR (us := [.ref a, v]) (vs := [.ref a, x]) F hr hx I (.cons rfl (.cons rx .nil)) hsp)) fun r s1 ⟨z, H1, I1, rz, b, ez, q⟩ => ?_
  subst ez
  obtain rfl : r = Value.bool b := rz
  exact wpAny_truthy_bool ⟨.bl b, H1, I1, rfl, q⟩
end
/-- what the head must tell of a class's reading -/
def creadB (K : PySem.W.Frag) (C : Addr) : Bool := PySem.W.readsIn K C (.type "type") && He.eqO (PySem.W.specialIn K (.ref C) "__getattribute__") (some (some (.builtin "type.__getattribute__")))
theorem creadB_ok {K : PySem.W.Frag} {C : Addr} (h : creadB K C = true) : ClX.CRead K C (.type "type") := by
  obtain ⟨h1, h2⟩ := He.ba h
  exact ⟨h1, He.eqO_ok h2⟩
def cmetB (K : PySem.W.Frag) (C : Addr) (m : Str) : Bool := He5.wrapB K C "classmethod" "classmethod.__get__" m && PySem.W.fnIn K (He5.wf K C "classmethod" m)
theorem cmetB_ok {K : PySem.W.Frag} {C : Addr} {m : Str} (h : cmetB K C m = true) : ClX.CMet K C (.type "type") m (He.ma K C m) (He5.wf K C "classmethod" m) := by
  obtain ⟨h1, h2⟩ := He.ba h
  exact He5.cmet_of h1 h2
/-- names, defs, defs at any address, more -/
abbrev AlZ : Type := He.AlD × He.AlD × Bool
def obsZ (n : Nat) (fa : List He.Fa) (fn : List He.DefD) (fna : List He5.DefA) (ex : PySem.W.Frag → Bool) (g : Addr → Option Obj) : AlZ :=
  (He.obsD fa fn (He.frG g (He5.asA g n)), He5.obsA [] fna (He.frG g (He5.asA g n)), ex (He.frG g (He5.asA g n)))
def valZ (fn : List He.DefD) (fna : List He5.DefA) : AlZ := (He.valD fn, He5.valA fna, true)
structure SaysZ (fa : List He.Fa) (fn : List He.DefD) (fna : List He5.DefA) (ex : PySem.W.Frag → Bool) (K : PySem.W.Frag) : Prop where
  d : He.SaysD fa fn K
  a : He5.SaysA [] fna K
  more : ex K = true
def hookZ (n : Nat) (fa : List He.Fa) (fn : List He.DefD) (fna : List He5.DefA) (ex : PySem.W.Frag → Bool) : PySem.W.Hook where
  α := AlZ
  obs := fun s => obsZ n fa fn fna ex s.heap.get?
  val := fun _ => valZ fn fna
  says := fun _ h => ∃ K : PySem.W.Frag, K.In h ∧ SaysZ fa fn fna ex K
  of := fun _ _ e => ⟨_, He.frG_in, ⟨congrArg (fun z : AlZ => z.1) e, congrArg (fun z : AlZ => z.2.1) e, congrArg (fun z : AlZ => z.2.2) e⟩⟩
  keeps := fun _ _ _ ⟨K, hK, c⟩ k => ⟨K, PySem.W.Frag.In.keeps hK k, c⟩
theorem obsZ_eq {n : Nat} {fa : List He.Fa} {fn : List He.DefD} {fna : List He5.DefA} {ex : PySem.W.Frag → Bool} {g : Addr → Option Obj} {s : Shared} (h : ∀ a, g a = s.heap.get? a) : obsZ n fa fn fna ex g = (hookZ n fa fn fna ex).obs s := by
  have e : g = s.heap.get? := funext h
  rw [e] <;> rfl
end Bx
-- needs clsrules
-- imports HandS.Star HandS.Codes HandS.Property KE.KOpsOwn
/-! own classes: made with *items, own operators, own == and ~, isinstance -/
namespace Bx
open PySem PySem.Spec PyProof.Rows L2
section
variable {X : Cx} {CX : CXT} {k i : Nat} {C f : Addr} {ps : List Str} {sp : Sp} {E : XK} {x m : Str} {p pos sp_ : Pos} {e : Expr} {te : TE}
/-- C(*items) -/
def tMakeS (K : PySem.W.Frag) (C : Addr) (sp : Sp) (E : XK) (te : TE) : TE := fun σ H Q => te σ H fun y H1 => ∃ a xs, y = V.ref a ∧ (SqT K H1 a xs ∨ SqL K H1 a xs) ∧ ∀ x dx, H1 x = none → H1 dx = none → dx ≠ x →
  sp (.ref x :: (xs ++ [])) (upd (upd H1 dx (.own x)) x (.ins C dx [])) (fun v H2 => v = .non ∧ Q (.ref x) H2) E
theorem pe_mkS (M : Mk X.K C f) (G : GoodM X.prog X.w X.K X.mg X.base CX k f ps sp) (hr : Room (k + 1) X.A) (hg : Gl X x) (hm : X.mg x = some (.ref C)) (hx : Passes CX X E) (he : PE X e te) (hd : (x == ("__debug__" : Str)) = false := by decide)
    (hst : starEach [.Starred e sp_] X.env = [(true, eval e X.env)] := by rfl) : PE X (.Call (.Name x p) [.Starred e sp_] [] pos) (tMakeS X.K C sp E te) := by
  obtain ⟨fd, F, b⟩ := G
  refine ⟨fun pins s σ H Q I h => ?_⟩
  refine wpAny_Call_Name_kw (ld_glob I hg hm ?_ hd)
  refine PySem.W.callWith_S (h₀ := X.base) I.ok.mod.kin M.kp (thn (he.run pins s σ H _ I h) fun v s1 ⟨y, H1, I1, ry, a, xs, ey, hxs, q⟩ => ?_) hst
  subst ey
  obtain rfl : v = Value.ref a := ry
  exact StX.star_any I1 hxs fun us s2 I2 rv => ⟨I2.kIn, run_make M F hr b .nil hx I2 rv q⟩
/-- an instance of the class at C -/
def InsAt (C : Addr) (H : Hp) (a : Addr) : Prop := ∃ dx fs, H a = some (.ins C dx fs)
/-- x op y of two instances of C by C's own method, which gives an object -/
def rBinC (C : Addr) (sp : Sp) (E : XK) : R2 := fun x y H Q => ∃ a b, x = .ref a ∧ y = .ref b ∧ InsAt C H a ∧ InsAt C H b ∧ sp [.ref a, .ref b] H (fun v H' => ∃ z, v = .ref z ∧ Q v H') E
theorem op_binC {op : Operator} (hs : Meth X.K C m f) (hd : PySem.dunder op.info.2 = m) (hsf : PySem.W.selfFirst X.K C = true) (F : FnR X.prog X.w X.K X.mg X.base CX k f sp) (hr : Room k X.A) (hx : Passes CX X E) : OpR X (binaryOp op) (rBinC C sp E) := by
  intro pins s σ H x y v u Q I rx ry h
  obtain ⟨a, b, rfl, rfl, ⟨dx, fs, ha⟩, ⟨dy, gs, hb⟩, hsp⟩ := h
  obtain rfl : v = Value.ref a := rx
  obtain rfl : u = Value.ref b := ry
  obtain ⟨mA, O, _⟩ := ins_get I.hok ha
  obtain ⟨mB, O', _⟩ := ins_get I.hok hb
  obtain ⟨od, J, _⟩ := O.look
  obtain ⟨od', J', _⟩ := O'.look
  obtain ⟨m', hF⟩ := I.fr
  refine PySem.W.binop_K hF I.ok.mod.kin J J'.type hsf (by rw [hd]; exact hs.at_) (by exact hs.fn) ?_
  refine thn (wpAny_call (run_fnR (us := [.ref a, .ref b]) (vs := [.ref a, .ref b]) F hr hx I (.cons rfl (.cons rfl .nil)) hsp)) fun r s1 ⟨z, H1, I1, rz, w, ez, q⟩ => ?_
  subst ez
  obtain rfl : r = Value.ref w := rz
  exact ⟨.ref w, H1, I1, rfl, q⟩
/-- x == y of two instances of C by C's own __eq__ -/
def rEqC (C : Addr) (sp : Sp) (E : XK) : R2 := fun x y H Q => ∃ a b, x = .ref a ∧ y = .ref b ∧ InsAt C H a ∧ InsAt C H b ∧ sp [.ref a, .ref b] H (fun v H' => ∃ z : Bool, v = .bl z ∧ Q v H') E
theorem op_eqC (hu : X.A.units < cLine) (hs : Meth X.K C "__eq__" f) (F : FnR X.prog X.w X.K X.mg X.base CX k f sp) (hr : Room k X.A) (hx : Passes CX X E) : OpR X (compareOp .Eq) (rEqC C sp E) := by
  intro pins s σ H x y v u Q I rx ry h
  obtain ⟨a, b, rfl, rfl, ⟨dx, fs, ha⟩, ⟨dy, gs, hb⟩, hsp⟩ := h
  obtain rfl : v = Value.ref a := rx
  obtain rfl : u = Value.ref b := ry
  obtain ⟨mA, O, _⟩ := ins_get I.hok ha
  obtain ⟨mB, O', _⟩ := ins_get I.hok hb
  obtain ⟨od, J, _⟩ := O.look
  obtain ⟨od', J', _⟩ := O'.look
  obtain ⟨m', hF⟩ := I.fr
  refine PySem.W.cmp_K (op := .Eq) (tb := .ref C) hu hF I.ok.mod.kin J J'.type (by simp [PySem.W.notFirst]) hs.at_ (by exact hs.fn) ?_
  refine thn (wpAny_call (run_fnR (us := [.ref a, .ref b]) (vs := [.ref a, .ref b]) F hr hx I (.cons rfl (.cons rfl .nil)) hsp)) fun r s1 ⟨z, H1, I1, rz, w, ez, q⟩ => ?_
  subst ez
  obtain rfl : r = Value.bool w := rz
  exact ⟨.bl w, H1, I1, rfl, q⟩
/-- ~x by C's own __invert__ -/
def rInvC (C : Addr) (sp : Sp) (E : XK) : V → Hp → VK → Prop := fun x H Q => ∃ a, x = .ref a ∧ InsAt C H a ∧ sp [.ref a] H Q E
theorem un_invC (hs : Meth X.K C "__invert__" f) (F : FnR X.prog X.w X.K X.mg X.base CX k f sp) (hr : Room k X.A) (hx : Passes CX X E) : UnR X (unaryOp .Invert) (rInvC C sp E) := by
  intro pins s σ H x v Q I rx h
  obtain ⟨a, rfl, ⟨dx, fs, ha⟩, hsp⟩ := h
  obtain rfl : v = Value.ref a := rx
  obtain ⟨mA, O, _⟩ := ins_get I.hok ha
  obtain ⟨od, J, _⟩ := O.look
  obtain ⟨m', hF⟩ := I.fr
  refine PySem.W.ksp_inv hF I.ok.mod.kin J hs.at_ (by exact hs.fn) ?_
  exact wpAny_call (run_fnR (us := [.ref a]) (vs := [.ref a]) F hr hx I (.cons rfl .nil) hsp)
end
section
variable {X : Cx} {CX : CXT} {k : Nat} {C f : Addr} {ps : List Str} {sp : Sp} {E : XK} {m : Str} {pos apos : Pos} {o e : Expr} {es : List Expr} {ta : TE} {t : TA} {pl : Sem Bool}
/-- o.m() -/
theorem pe_mG0 (he : PE X o ta) (c : L2.Cls X.K C) (hm : Meth X.K C m f) (G : GoodM X.prog X.w X.K X.mg X.base CX k f ps sp) (hr : Room k X.A) (hx : Passes CX X E)
    (ht : eval (.Call (.Attribute o m apos) [] [] pos) X.env = (do
      let ov ← eval o X.env
      standAt apos.atName
      let (f, first) ← holding [ov] (getMethod ov m pl)
      callWith pos f first (backTo pos (starEach [] X.env)) (backToKw pos (keywordEach [] X.env))) := by rfl) : PE X (.Call (.Attribute o m apos) [] [] pos) (tMeth C m sp [] E ta tNil) := by
  obtain ⟨fd, F, b⟩ := G
  exact pe_meth0 he c hm F hr b .nil hx ht
/-- o.m(e, ..) -/
theorem pe_mG (he : PE X o ta) (c : L2.Cls X.K C) (hm : Meth X.K C m f) (G : GoodM X.prog X.w X.K X.mg X.base CX k f ps sp) (hr : Room k X.A) (hx : Passes CX X E) (ha : PA X (e :: es) t)
    (hst : starEach (e :: es) X.env = (false, eval e X.env) :: starEach es X.env := by rfl) (hpl : (backTo pos (starEach es X.env)).any (·.1) = false := by rfl)
    (ht : eval (.Call (.Attribute o m apos) (e :: es) [] pos) X.env = (do
      let ov ← eval o X.env
      standAt apos.atName
      let (f, first) ← holding [ov] (getMethod ov m pl)
      callWith pos f first (backTo pos (starEach (e :: es) X.env)) (backToKw pos (keywordEach [] X.env))) := by rfl) : PE X (.Call (.Attribute o m apos) (e :: es) [] pos) (tMeth C m sp [] E ta t) := by
  obtain ⟨fd, F, b⟩ := G
  exact pe_meth he c hm F hr b .nil hx ha hst hpl ht
theorem hu1 {A : Around} (h : A.units + 64 < cLine) : A.units < cLine := Nat.lt_of_le_of_lt (Nat.le_add_right _ 64) h
end
section
variable {X : Cx} {CX : CXT} {k : Nat} {C f p g : Addr} {ps : List Str} {sp : Sp} {E : XK} {m kn x : Str} {pos apos : Pos} {o e : Expr} {kws : List Keyword} {ta : TE} {tk : TA} {pl : Sem Bool}
/-- e.f, a property -/
theorem pe_propG (he : PE X e ta) (c : L2.Cls X.K C) (hp : PropOf X.K C x p g) (G : GoodM X.prog X.w X.K X.mg X.base CX k g ps sp) (hr : Room (k + 1) X.A) (hx : Passes CX X.nox E)
    (hab : attributeBase e x X.env (eval e X.env) = eval e X.env) : PE X (.Attribute e x pos) (tProp C sp [] E ta) := by
  obtain ⟨fd, F, b⟩ := G
  exact pe_prop he c hp F hr b .nil hx hab
/-- a method that is called with one keyword, too -/
def GoodMK (P : Program) (w : World) (K : PySem.W.Frag) (mg : Str → Option Value) (base : Heap) (CX : CXT) (k : Nat) (f : Addr) (ps : List Str) (kn : Str) (sp : Sp) : Prop :=
  ∃ fd, FnOk P w K mg base CX k f fd ps sp ∧ Binds K fd ps [] ∧ ∀ (s : Shared) (u v : Value), BindsTo s fd ⟨[u], [(kn, v)]⟩ (ps.zip [u, v])
theorem GoodMK.good {P : Program} {w : World} {K : PySem.W.Frag} {mg : Str → Option Value} {base : Heap} {f : Addr} (h : GoodMK P w K mg base CX k f ps kn sp) : GoodM P w K mg base CX k f ps sp := by
  obtain ⟨fd, F, b, _⟩ := h
  exact ⟨fd, F, b⟩
/-- o.m(k = v) -/
def tMethK (C : Addr) (m : Str) (sp : Sp) (E : XK) (ta : TE) (tk : TA) : TE := fun σ H Q => ta σ H fun x H1 => ∃ a dx fs, x = .ref a ∧ H1 a = some (.ins C dx fs) ∧ fs.lookup m = none ∧ tk σ H1 fun zs H2 => ∃ z, zs = [z] ∧ sp [x, z] H2 Q E
theorem pe_mGk (he : PE X o ta) (c : L2.Cls X.K C) (hm : Meth X.K C m f) (G : GoodMK X.prog X.w X.K X.mg X.base CX k f ps kn sp) (hr : Room k X.A) (hx : Passes CX X E) (hkw : PK X kws tk)
    (hall : (backToKw pos (keywordEach kws X.env)).all (·.1.isSome) = true := by rfl) (hks : (backToKw pos (keywordEach kws X.env)).filterMap (·.1) = [kn] := by rfl)
    (hpl : ((backTo pos (starEach [] X.env)).any (·.1) || (backToKw pos (keywordEach kws X.env)).any (·.1.isNone)) = false := by rfl)
    (ht : eval (.Call (.Attribute o m apos) [] kws pos) X.env = (do
      let ov ← eval o X.env
      standAt apos.atName
      let (f, first) ← holding [ov] (getMethod ov m pl)
      callWith pos f first (backTo pos (starEach [] X.env)) (backToKw pos (keywordEach kws X.env))) := by rfl) :
    PE X (.Call (.Attribute o m apos) [] kws pos) (tMethK C m sp E ta tk) := by
  obtain ⟨fd, F, _, hb⟩ := G
  refine ⟨fun pins s σ H Q I h => ?_⟩
  refine PySem.W.methodCall_KW (pl := pl) (thn (he.run pins s σ H _ I h) fun u s1 ⟨x, H1, I1, rx, a, dx, fs, ex, ea, l, q⟩ => ?_) ht
  subst ex
  obtain rfl : u = Value.ref a := rx
  refine getmeth_ok I1 ea c hm l ?_
  refine PySem.W.callWith_KW0 (first := [.ref a]) (h₀ := X.base) I.ok.mod.kin hm.kp hall (thn (hkw.run pos pins s1 σ H1 _ I1 q) fun ws s2 ⟨zs, H2, I2, rz, z, ez, q2⟩ => ⟨I2.kIn, ?_⟩) hpl
  subst ez
  obtain ⟨w, rfl, rw'⟩ := vals1 rz
  rw [hks]
  refine wpAny_call (codeAny_mono (F.run X.A X.stack s2 H2 ⟨[.ref a], [(kn, w)]⟩ [.ref a, w] [.ref a, z] Q E hr I2.env0 (hb s2 (.ref a) w) (.cons rfl (.cons rw' .nil)) q2) fun r s' hq => ?_)
  cases r with
  | error e => exact hx pins σ H2 s2 e s' I2 hq
  | ok fl =>
    cases fl with
    | ret u => exact I2.after hq
    | next => exact False.elim hq
    | brk => exact False.elim hq
    | cont => exact False.elim hq
end
/-- what the head must tell of a property -/
def propB (K : PySem.W.Frag) (C : Addr) (f : Str) : Bool := He.eqO (PySem.W.findIn K (.ref C) f) (some (some (.ref (He.ma K C f)))) && (He.eqO (PySem.W.specialIn K (.ref (He.ma K C f)) "__get__") (some (some (.builtin "property.__get__"))) && (decide (PySem.W.takesIn K (.ref (He.ma K C f)) = some true) &&
  (match PySem.W.recIn K (He.ma K C f) "property" with
    | some (.ref _ :: _) => true
    | _ => false)))
theorem propB_ok {K : PySem.W.Frag} {C : Addr} {f : Str} (h : propB K C f = true) : PropOf K C f (He.ma K C f) (He5.wf K C "property" f) := by
  obtain ⟨h1, h⟩ := He.ba h
  obtain ⟨h2, h⟩ := He.ba h
  obtain ⟨h3, h4⟩ := He.ba h
  refine ⟨He.eqO_ok h1, He.eqO_ok h2, of_decide_eq_true h3, ?_⟩
  unfold He5.wf
  split at h4
  · rename_i g r e
    exact ⟨r, by rw [e]⟩
  · cases h4
/-- what isinstance asks of an own class, as one Bool -/
def insB (K : PySem.W.Frag) (C : Addr) : Bool := He.eqO (PySem.W.findIn K (.ref C) "__class__") (some (some (.builtin "object.__class__"))) && (He.eqO (PySem.W.specialIn K (.builtin "object.__class__") "__get__") (some (some (.builtin "getset_descriptor.__get__"))) &&
  (decide (PySem.W.takesIn K (.builtin "object.__class__") = some true) && (decide (PySem.W.mroIn K C (.type "object") = some true) && decide (PySem.W.kitOne K (.ref C) (.ref C) = some true))))
theorem insB_ok {K : PySem.W.Frag} {C : Addr} (c : L2.Cls K C) (h : insB K C = true) : C8.InsC K C := by
  obtain ⟨h1, h⟩ := He.ba h
  obtain ⟨h2, h⟩ := He.ba h
  obtain ⟨h3, h⟩ := He.ba h
  obtain ⟨h4, h5⟩ := He.ba h
  exact ⟨c, He.eqO_ok h1, He.eqO_ok h2, of_decide_eq_true h3, of_decide_eq_true h4, of_decide_eq_true h5⟩
end Bx
-- needs clsops
-- imports HandS.Defaults
/-! o.m(e, .., k = v, ..): a method called by place and by keywords, with keyword-only parameters -/
namespace Bx
open PySem PySem.Spec PyProof.Rows L2
/-- the method at f, called by n values (self among them) and the keywords ks -/
def GoodMN (P : Program) (w : World) (K : PySem.W.Frag) (mg : Str → Option Value) (base : Heap) (CX : CXT) (k : Nat) (f : Addr) (n : Nat) (ks ps : List Str) (gV : List V → List V → List V) (sp : Sp) : Prop :=
  ∃ fd, FnOk P w K mg base CX k f fd ps sp ∧ ∃ g, KBn K fd ps n ks g gV
theorem bindsWK {K : PySem.W.Frag} {x qual : Str} {params : Arguments} {body : List Stmt} {scope : Scope} {kws : List (Str × V)} {f : Addr} {fd : FuncData} {args : Args} {binds : List (Str × Value)} (F : FunD K x qual params body scope [] kws f fd)
    (h : ∀ (kV doc pm : Value) (an : Option Addr) (cdv ct : Value), bindArgs (PySem.W.fnOf x qual params body scope .none kV doc pm an cdv ct) args = pure binds) (s : Shared) : BindsTo s fd args binds := F.bindsW h s
section
variable {X : Cx} {CX : CXT} {k n : Nat} {C f : Addr} {ps ks : List Str} {sp : Sp} {E : XK} {m : Str} {pos apos : Pos} {o e : Expr} {es : List Expr} {kws : List Keyword} {ta : TE} {t tk : TA} {pl : Sem Bool} {gV : List V → List V → List V}
/-- o.m(e, .., k = v, ..) -/
def tMethN (C : Addr) (m : Str) (n nk : Nat) (sp : Sp) (gV : List V → List V → List V) (E : XK) (ta : TE) (t tk : TA) : TE := fun σ H Q => ta σ H fun x H1 => ∃ a dx fs, x = .ref a ∧ H1 a = some (.ins C dx fs) ∧ fs.lookup m = none ∧
  t σ H1 fun vs H2 => tk σ H2 fun zs H3 => vs.length + 1 = n ∧ zs.length = nk ∧ sp (gV (x :: vs) zs) H3 Q E
theorem pe_mGN (he : PE X o ta) (c : L2.Cls X.K C) (hm : Meth X.K C m f) (G : GoodMN X.prog X.w X.K X.mg X.base CX k f n ks ps gV sp) (hr : Room k X.A) (hx : Passes CX X E) (ha : PA X (e :: es) t) (hkw : PK X kws tk)
    (hall : (backToKw pos (keywordEach kws X.env)).all (·.1.isSome) = true := by rfl) (hks : (backToKw pos (keywordEach kws X.env)).filterMap (·.1) = ks := by rfl)
    (hst : starEach (e :: es) X.env = (false, eval e X.env) :: starEach es X.env := by rfl)
    (hpl : ((backTo pos (starEach (e :: es) X.env)).any (·.1) || (backToKw pos (keywordEach kws X.env)).any (·.1.isNone)) = false := by rfl)
    (ht : eval (.Call (.Attribute o m apos) (e :: es) kws pos) X.env = (do
      let ov ← eval o X.env
      standAt apos.atName
      let (f, first) ← holding [ov] (getMethod ov m pl)
      callWith pos f first (backTo pos (starEach (e :: es) X.env)) (backToKw pos (keywordEach kws X.env))) := by rfl) :
    PE X (.Call (.Attribute o m apos) (e :: es) kws pos) (tMethN C m n ks.length sp gV E ta t tk) := by
  obtain ⟨fd, F, g, hb⟩ := G
  refine ⟨fun pins s σ H Q I h => ?_⟩
  refine PySem.W.methodCall_KW (pl := pl) (thn (he.run pins s σ H _ I h) fun u s1 ⟨x, H1, I1, rx, a, dx, fs, ex, ea, l, q⟩ => ?_) ht
  subst ex
  obtain rfl : u = Value.ref a := rx
  refine getmeth_ok I1 ea c hm l ?_
  refine PySem.W.callWith_KW (first := [.ref a]) (h₀ := X.base) I.ok.mod.kin hm.kp hall (thn (ha.run pos pins s1 σ H1 _ I1 q) fun us s2 ⟨vs, H2, I2, r, q2⟩ => ?_) hpl hst
  refine thn (hkw.run pos pins s2 σ H2 _ I2 q2) fun ws s3 ⟨zs, H3, I3, rz, l1, l2, q3⟩ => ⟨I3.kIn, ?_⟩
  rw [hks]
  exact run_fnN (us := .ref a :: us) (vs := .ref a :: vs) F hr hb hx I3 (.cons rfl r) rz l1 l2 q3
/-- o.m(k = v, ..) -/
theorem pe_mGN0 (he : PE X o ta) (c : L2.Cls X.K C) (hm : Meth X.K C m f) (G : GoodMN X.prog X.w X.K X.mg X.base CX k f n ks ps gV sp) (hr : Room k X.A) (hx : Passes CX X E) (hkw : PK X kws tk)
    (hall : (backToKw pos (keywordEach kws X.env)).all (·.1.isSome) = true := by rfl) (hks : (backToKw pos (keywordEach kws X.env)).filterMap (·.1) = ks := by rfl)
    (hpl : ((backTo pos (starEach [] X.env)).any (·.1) || (backToKw pos (keywordEach kws X.env)).any (·.1.isNone)) = false := by rfl)
    (ht : eval (.Call (.Attribute o m apos) [] kws pos) X.env = (do
      let ov ← eval o X.env
      standAt apos.atName
      let (f, first) ← holding [ov] (getMethod ov m pl)
      callWith pos f first (backTo pos (starEach [] X.env)) (backToKw pos (keywordEach kws X.env))) := by rfl) :
    PE X (.Call (.Attribute o m apos) [] kws pos) (tMethN C m n ks.length sp gV E ta tNil tk) := by
  obtain ⟨fd, F, g, hb⟩ := G
  refine ⟨fun pins s σ H Q I h => ?_⟩
  refine PySem.W.methodCall_KW (pl := pl) (thn (he.run pins s σ H _ I h) fun u s1 ⟨x, H1, I1, rx, a, dx, fs, ex, ea, l, q⟩ => ?_) ht
  subst ex
  obtain rfl : u = Value.ref a := rx
  refine getmeth_ok I1 ea c hm l ?_
  refine PySem.W.callWith_KW0 (first := [.ref a]) (h₀ := X.base) I.ok.mod.kin hm.kp hall (thn (hkw.run pos pins s1 σ H1 _ I1 q) fun ws s3 ⟨zs, H3, I3, rz, l1, l2, q3⟩ => ⟨I3.kIn, ?_⟩) hpl
  rw [hks, List.append_nil]
  exact run_fnN (us := [.ref a]) (vs := [.ref a]) F hr hb hx I3 (.cons rfl .nil) rz l1 l2 q3
end
end Bx
-- needs excS methk
-- imports HandS.ClsMeth
/-! a def whose first statement calls super().m(..), m a method of the base at the address g; self is an instance of the very class -/
namespace Bx
open PySem PySem.Spec PyProof.Rows L2
/-- what the written part says of a method of C at f that reads super(), and of the base's m at g -/
structure SupM (P : Program) (K : PySem.W.Frag) (C f cc cd : Addr) (fd : FuncData) (m : Str) (g : Addr) : Prop where
  fn : ∃ oc od osl, K.lookup f = some ⟨oc, od, .func fd, osl⟩
  self : ∃ ar, (fd.params.posonlyargs ++ fd.params.args).head? = some ar ∧ ar.arg = "self"
  code : ∃ (cl : Value) (cdd : Option Addr) (vs : Array Value) (ccs : Array (Option Value)) (file : Str) (tf : PySem.Tok), K.lookup cd = some ⟨cl, cdd, .fields vs, ccs⟩ ∧ vs[2]? = some (.str file tf) ∧ MainP P file
  cell : ∃ (cl : Value) (cld : Option Addr) (csl : Array (Option Value)), K.lookup cc = some ⟨cl, cld, .cell (some (.ref C)), csl⟩
  cls : ∃ cdC, PySem.W.clsIn K C = some cdC
  sub : PySem.W.mroIn K C (.ref C) = some true
  sup : PySem.W.ks_superIn K C C m = some (some (.ref g))
  ty : PySem.W.typeIn K (.ref g) = some (.type "function")
  fi : PySem.W.fnIn K g = true
  stat : PySem.W.nsIn K cStatics "thirdparty.any" = some none
  nm : (m == ("__class__" : Str)) = false
section
variable {CX : CXT} {P : Program} {w : World} {K : PySem.W.Frag} {mg : Str → Option Value} {base : Heap} {N : List Str} {name qual : Str} {params : Arguments} {body : List Stmt} {scope : Scope} {dV kV doc pm ct : Value} {an : Option Addr} {f cc cd C a g dx : Addr} {A : Around} {outer : List PySem.Env} {s0 s : Shared} {H0 H : Hp} {E : XK} {σ : L2.St} {ps : List Str} {m : Str} {fs : List (Str × V)}
theorem wpAt_MethodCallK {M : Model} {A : Around} {c : Code} {env : PySem.Env} {E : Value → Shared → Prop} {s : Shared} {o : Expr} {name : Str} {apos pos : Pos} {args : List Expr} {kws : List Keyword} {pl : Sem Bool} {Q : Value → Shared → Prop}
    (h : _root_.PySem.wpAt M A c (attributeBase o name env (eval o env)) (fun ov s₁ => wpAny M A (getMethod ov name pl) (fun fx s₂ => wpAny M A (callWith pos fx.1 fx.2 (backTo pos (starEach args env)) (backToKw pos (keywordEach kws env))) Q E s₂) E s₁) E s)
    (he : eval (.Call (.Attribute o name apos) args kws pos) env = (do
      let ov ← attributeBase o name env (eval o env)
      standAt apos.atName
      let (f, first) ← holding [ov] (getMethod ov name pl)
      callWith pos f first (backTo pos (starEach args env)) (backToKw pos (keywordEach kws env)))) :
    _root_.PySem.wpAt M A c (eval (.Call (.Attribute o name apos) args kws pos) env) Q E s := by
  rw [he]
  refine PySem.wpAt_bind (PySem.ks_wpAt_mono h (fun ov s₁ h₁ => PySem.wpAt_of_wpAny (wpAny_bind (wpAny_standAt (wpAny_bind (wpAny_holding (wpAny_mono h₁ (fun fx s₂ h₂ => ?_) fun _ _ x => x)))))) fun _ _ x => x)
  exact h₂
/-- super().m is a bound method -/
theorem sup_eval {es : List Expr} {kws : List Keyword} {p0 p1 p2 p3 : Pos} {pl : Sem Bool} {Q : Value → Shared → Prop} (T : SupM P K C f cc cd (PySem.W.ksFn name qual params body scope dV kV doc pm an (.ref cd) ct cc) m g) (S : ScopeS N ps scope) (hmg : mg ("super" : Str) = none)
    (hN : N[0]? = some ("self" : Str)) (hself : scope.names.lookup ("self" : Str) = some .local) (hσ : σ[0]? = some (some (.ref a)))
    (I : Inv (cxS CX P w K mg base N qual scope f (.ref cd) cc A outer s0 H0 E) [] σ H s) (hea : H a = some (.ins C dx fs))
    (hcall : ∀ s1 q, Inv (cxS CX P w K mg base N qual scope f (.ref cd) cc A outer s0 H0 E) [(q, PySem.W.methodObj (.ref g) (.ref a))] σ H s1 → base.get? q = none →
      wpAny (model P w) (A.deeper (envS qual scope s0.heap.objs.size f (.ref cd) cc)) (callWith p3 (.ref q) [] (backTo p3 (starEach es (envS qual scope s0.heap.objs.size f (.ref cd) cc))) (backToKw p3 (keywordEach kws (envS qual scope s0.heap.objs.size f (.ref cd) cc)))) Q (cxS CX P w K mg base N qual scope f (.ref cd) cc A outer s0 H0 E).xe s1)
    (hev : eval (.Call (.Attribute (.Call (.Name "super" p0) [] [] p1) m p2) es kws p3) (envS qual scope s0.heap.objs.size f (.ref cd) cc) = (do
      let ov ← attributeBase (.Call (.Name "super" p0) [] [] p1) m (envS qual scope s0.heap.objs.size f (.ref cd) cc) (eval (.Call (.Name "super" p0) [] [] p1) (envS qual scope s0.heap.objs.size f (.ref cd) cc))
      standAt p2.atName
      let (fn, first) ← holding [ov] (getMethod ov m pl)
      callWith p3 fn first (backTo p3 (starEach es (envS qual scope s0.heap.objs.size f (.ref cd) cc))) (backToKw p3 (keywordEach kws (envS qual scope s0.heap.objs.size f (.ref cd) cc))))) :
    _root_.PySem.wpAt (model P w) (A.deeper (envS qual scope s0.heap.objs.size f (.ref cd) cc)) (.func body (envS qual scope s0.heap.objs.size f (.ref cd) cc)) (eval (.Call (.Attribute (.Call (.Name "super" p0) [] [] p1) m p2) es kws p3) (envS qual scope s0.heap.objs.size f (.ref cd) cc))
      Q (cxS CX P w K mg base N qual scope f (.ref cd) cc A outer s0 H0 E).xe s := by
  obtain ⟨oc, od, osl, lkf⟩ := T.fn
  obtain ⟨ar, har, ear⟩ := T.self
  obtain ⟨ccl, cdd, vsC, ccs, file, tf, lkc, hvs, MP⟩ := T.code
  obtain ⟨kcl, kcd, ksl, lkcell⟩ := T.cell
  obtain ⟨cdC, hcl⟩ := T.cls
  obtain ⟨oD, hD, hDt⟩ : ∃ oD, K.lookup C = some oD ∧ oD.data = .cls cdC := by
    unfold PySem.W.clsIn at hcl
    split at hcl
    · rename_i c d cd' sl ho
      cases hcl
      exact ⟨_, ho, rfl⟩
    · cases hcl
  obtain ⟨mb, hblt, hboot⟩ := I.mod.blt
  obtain ⟨mA, O, _⟩ := ins_get I.hok hea
  obtain ⟨odI, J, _⟩ := O.look
  obtain ⟨mm, hns, hlk⟩ := I.loc
  refine wpAt_MethodCallK (pl := pl) ?_ hev
  refine PySem.ks_wpAt_super_base S.sup S.cls T.nm rfl (I.kIn _ _ lkf) rfl har rfl (I.kIn _ _ lkc) rfl hvs MP.file MP.sup ?_
  refine PySem.W.ks_loadName_global S.kind S.sup (Calls.loadGlobal_builtin (by exact I.mod.glob.keeps I.bk) hmg (by exact hblt.keeps I.bk) ((hboot _ (by decide)).trans (show bootBuiltins "super" = some (.type "super") by first | rfl | kernel_rfl)) ⟨rfl, ?_⟩)
  refine wpAny_loadName_free S.kind S.cls (by rfl) ⟨_, I.kIn _ _ lkcell, rfl⟩ ?_
  rw [ear]
  obtain ⟨ua, ra, hm⟩ := hlk 0 "self" (.ref a) hN hσ (.inl hself)
  cases ra
  have hma : mm "self" = some (.ref a) := by
    rcases hm with ⟨_, z⟩ | ⟨z, _⟩
    · exact z
    · have z' : scope.names.lookup ("self" : Str) = some .cell ∨ scope.names.lookup ("self" : Str) = some .free := z
      rw [hself] at z'
      rcases z' with z' | z' <;> cases z'
  refine wpAny_loadName_local S.kind hself hns hma ?_
  obtain ⟨hp, gg, dr, tk, os⟩ := s
  refine PySem.ks_wpAny_isType_cls (I.kIn _ _ hD) hDt ⟨rfl, ?_⟩
  refine PySem.ks_wpAny_call_super (I.kIn _ _ hD) hDt J.at_ J.cls (fun c e => ?_) (PySem.W.looks_mroIn I.kIn T.sub) fun h' eso k => ?_
  · have := J.no
    unfold PySem.W.notCls at this
    rw [e] at this
    exact Bool.noConfusion this
  have I1 : Inv (cxS CX P w K mg base N qual scope f (.ref cd) cc A outer s0 H0 E) [] σ H ⟨h', gg, dr, tk, os⟩ := I.kept (t' := tk) k
  obtain ⟨of, hof, hofc⟩ : ∃ of, K.lookup g = some of ∧ of.cls = .type "function" := by
    have ht' : (K.lookup g).map (·.cls) = some (.type "function") := T.ty
    cases z : K.lookup g with
    | none => rw [z] at ht'; cases ht'
    | some of => rw [z] at ht'; exact ⟨of, rfl, Option.some.inj ht'⟩
  have hm := T.sup
  unfold PySem.W.ks_superIn at hm
  rw [hcl] at hm
  refine PySem.ks_wpAny_getMethod_super eso (PySem.W.looks_opaque I1.kIn T.stat) (l₀ := cdC.mro) (fun A Q E s k q => wpAny_bind ((PySem.W.looks_clsIn I1.kIn hcl) A _ E s k (wpAny_pure q))) rfl I1.kIn hm (I1.kIn _ _ hof) hofc (PySem.W.ks_ne I.kIn J hcl) T.nm ?_
  have I2 : Inv (cxS CX P w K mg base N qual scope f (.ref cd) cc A outer s0 H0 E) [(h'.objs.size, PySem.W.methodObj (.ref g) (.ref a))] σ H ⟨h'.push (PySem.W.methodObj (.ref g) (.ref a)), gg, dr, tk + 1, os⟩ :=
    ClX.pin_new I1 (fun _ _ z => Heap.get?_push_of_some _ z) (Nat.le_refl _) (Heap.get?_push_size _ rfl) (fun v z => nomatch z)
  exact hcall _ _ I2 (ClX.base_none I1 (Nat.le_refl _))
end
section
variable {X : Cx} {CX : CXT} {k n : Nat} {C g q a : Addr} {ps ks : List Str} {sp : Sp} {E : XK} {pos : Pos} {e : Expr} {es : List Expr} {kws : List Keyword} {t tk : TA} {gV : List V → List V → List V} {σ : L2.St} {H : Hp} {s : Shared} {Q : VK}
/-- the bound method called: with values, with nothing, with keywords -/
theorem supcall_pos (I : Inv X [(q, PySem.W.methodObj (.ref g) (.ref a))] σ H s) (hb : X.base.get? q = none) (hf : PySem.W.fnIn X.K g = true) (F : FnR X.prog X.w X.K X.mg X.base CX k g sp) (hr : Room k X.A) (hx : Passes CX X E) (ha : PA X (e :: es) t)
    (h : t σ H fun vs H1 => sp (.ref a :: vs) H1 Q E)
    (hst : starEach (e :: es) X.env = (false, eval e X.env) :: starEach es X.env := by rfl) (hpl : (backTo pos (starEach es X.env)).any (·.1) = false := by rfl) :
    wpAny (model X.prog X.w) X.A (callWith pos (.ref q) [] (backTo pos (starEach (e :: es) X.env)) (backToKw pos (keywordEach [] X.env))) (EP X [] σ Q) X.xe s := by
  refine ClX.callwith_cm I hb hf (thn (ha.run pos _ s σ H _ I h) fun us s3 ⟨vs, H2, I3, rv, q2⟩ => ⟨⟨ClX.pin_at I3, I3.kIn⟩, ?_⟩) hst hpl
  exact ClX.run_cm F hr hx I3 rv q2
theorem supcall_none (I : Inv X [(q, PySem.W.methodObj (.ref g) (.ref a))] σ H s) (hf : PySem.W.fnIn X.K g = true) (F : FnR X.prog X.w X.K X.mg X.base CX k g sp) (hr : Room k X.A) (hx : Passes CX X E)
    (h : sp [.ref a] H Q E) :
    wpAny (model X.prog X.w) X.A (callWith pos (.ref q) [] (backTo pos (starEach [] X.env)) (backToKw pos (keywordEach [] X.env))) (EP X [] σ Q) X.xe s :=
  PySem.W.callWith_M0 (K := X.K) (first := []) ⟨ClX.pin_at I, I.kIn⟩ hf (ClX.run_cm F hr hx I .nil h)
theorem supcall_kw (I : Inv X [(q, PySem.W.methodObj (.ref g) (.ref a))] σ H s) (hf : PySem.W.fnIn X.K g = true) (G : GoodMN X.prog X.w X.K X.mg X.base CX k g 1 ks ps gV sp) (hr : Room k X.A) (hx : Passes CX X E) (hkw : PK X kws tk)
    (h : tk σ H fun zs H1 => zs.length = ks.length ∧ sp (gV [.ref a] zs) H1 Q E)
    (hall : (backToKw pos (keywordEach kws X.env)).all (·.1.isSome) = true := by rfl) (hks : (backToKw pos (keywordEach kws X.env)).filterMap (·.1) = ks := by rfl)
    (hpl : ((backTo pos (starEach [] X.env)).any (·.1) || (backToKw pos (keywordEach kws X.env)).any (·.1.isNone)) = false := by rfl) :
    wpAny (model X.prog X.w) X.A (callWith pos (.ref q) [] (backTo pos (starEach [] X.env)) (backToKw pos (keywordEach kws X.env))) (EP X [] σ Q) X.xe s := by
  obtain ⟨fd, F, gU, hb⟩ := G
  refine PySem.W.callWith_of (P := PySem.W.MethP X.K q g (.ref a)) hpl (PySem.W.keeps_M hf) (evalArgs_kw2_nil hall ?_)
  refine thn (hkw.run pos _ s σ H _ I h) fun ws s3 ⟨zs, H3, I3, rz, l2, q3⟩ => ⟨⟨ClX.pin_at I3, I3.kIn⟩, ?_⟩
  rw [hks, List.append_nil]
  have r2 := hb.rel (us := [.ref a]) (vs := [.ref a]) (.cons rfl .nil) rz
  have z : wpAny (model X.prog X.w) X.A (call (.ref q) [] (ks.zip ws)) (EP X [(q, PySem.W.methodObj (.ref g) (.ref a))] σ Q) X.xe s3 := wpAny_call (PySem.ks_codeAny_call_bound (a := ⟨[], ks.zip ws⟩) (ClX.pin_at I3) (codeAny_mono (F.run X.A X.stack s3 H3 ⟨[.ref a], ks.zip ws⟩ (gU [.ref a] ws) (gV [.ref a] zs) Q E hr I3.env0 (hb.to s3 [.ref a] ws I3.kIn rfl (rz.length.symm.trans l2)) r2 q3) fun r s' hq => by
    cases r with
    | error e => exact hx _ σ H3 s3 e s' I3 hq
    | ok fl =>
      cases fl with
      | ret u => exact I3.after hq
      | next => exact False.elim hq
      | brk => exact False.elim hq
      | cont => exact False.elim hq))
  exact thn z fun _ _ y => ClX.unpinE y
end
section
variable {X : Cx} {c : Code} {e : Expr} {i : Nat} {x : Str} {px pos : Pos} {σ : L2.St} {s : Shared} {R : L2.St → Hp → Prop}
theorem sup_expr (h : _root_.PySem.wpAt (model X.prog X.w) X.A c (eval e X.env) (EP X [] σ fun _ H' => R σ H') X.xe s)
    (hi : interactive X.env = false := by rfl) (hs : swapsWith e none pos.line X.env = pure false := by rfl) :
    _root_.PySem.wpAt (model X.prog X.w) X.A c (exec (.Expr e pos) X.env) (fun fl s' => fl = .next ∧ ∃ σ' H', Inv X [] σ' H' s' ∧ R σ' H') X.xe s :=
  PySem.ks_wpAt_Expr_any (PySem.ks_wpAt_mono h (fun v s1 ⟨y, H1, I1, r1, q1⟩ => ⟨rfl, σ, H1, I1, q1⟩) fun _ _ z => z) hi hs
theorem sup_asg (hN : X.N.Nodup) (hi : X.N[i]? = some x) (hx : X.env.scope.names.lookup x = some .local) (h : _root_.PySem.wpAt (model X.prog X.w) X.A c (eval e X.env) (EP X [] σ fun v H' => R (σ.set i (some v)) H') X.xe s)
    (hs : swapsWith e (some (.Name x px)) pos.line X.env = pure false := by rfl) :
    _root_.PySem.wpAt (model X.prog X.w) X.A c (exec (.Assign [.Name x px] e pos) X.env) (fun fl s' => fl = .next ∧ ∃ σ' H', Inv X [] σ' H' s' ∧ R σ' H') X.xe s :=
  PySem.ks_wpAt_Assign_Name (PySem.ks_wpAt_mono h (fun v s1 ⟨y, H1, I1, r1, q1⟩ => store_ok I1 hN hi (.inl hx) r1 (fun s2 I2 => ⟨rfl, _, H1, I2, q1⟩) (.inr hx)) fun _ _ z => z) hs
end
section
variable {CX : CXT} {P : Program} {w : World} {K : PySem.W.Frag} {mg : Str → Option Value} {base : Heap} {N : List Str} {name qual : Str} {params : Arguments} {st : Stmt} {rest : List Stmt} {scope : Scope} {dV kV doc pm ct : Value} {an : Option Addr} {f cc cd C g : Addr} {ps : List Str} {m : Str} {k : Nat} {sp : Sp}
/-- THE RULE: the first statement, then the rest -/
theorem supfn_ok (T : SupM P K C f cc cd (PySem.W.ksFn name qual params (st :: rest) scope dV kV doc pm an (.ref cd) ct cc) m g) (hcd : PySem.W.codeIn K (.ref cd) qual = true) (S : ScopeS N ps scope)
    (len : ∀ vs H Q E, sp vs H Q E → vs.length = ps.length)
    (hbody : ∀ (A : Around) (outer : List PySem.Env) (s : Shared) (H : Hp) (vs : List V) (Q : VK) (E : XK), Room k (A.deeper (envS qual scope s.heap.objs.size f (.ref cd) cc)) → sp vs H Q E → ∃ (t : TS), PSs (cxS CX P w K mg base N qual scope f (.ref cd) cc A outer s H E) rest t ∧
      ∀ s1, Inv (cxS CX P w K mg base N qual scope f (.ref cd) cc A outer s H E) [] (L2.start N vs) H s1 →
        _root_.PySem.wpAt (model P w) (A.deeper (envS qual scope s.heap.objs.size f (.ref cd) cc)) (.func (st :: rest) (envS qual scope s.heap.objs.size f (.ref cd) cc)) (exec st (envS qual scope s.heap.objs.size f (.ref cd) cc))
          (fun fl s' => fl = .next ∧ ∃ σ' H', Inv (cxS CX P w K mg base N qual scope f (.ref cd) cc A outer s H E) [] σ' H' s' ∧ t { nx := fun _ H' => Q .non H', rt := Q } σ' H') (cxS CX P w K mg base N qual scope f (.ref cd) cc A outer s H E).xe s1) :
    FnOk P w K mg base CX (k + 1) f (PySem.W.ksFn name qual params (st :: rest) scope dV kV doc pm an (.ref cd) ct cc) ps sp := by
  obtain ⟨oc, od, osl, lk⟩ := T.fn
  obtain ⟨kcl, kcd, ksl, lkcell⟩ := T.cell
  refine ⟨len, fun A outer s H args us vs Q E hr e0 hb r hsp => ?_⟩
  have hl := len _ _ _ _ hsp
  have KX : K.In s.heap := e0.mod.kin.keeps fun b o e => (e0.bs b o e).1
  have lim : s.heap.NoLimit := e0.mod.nolimit.keeps fun b o e => (e0.bs b o e).1
  refine PySem.ks_codeAny_call_defAt hr.depth (KX _ _ lk) rfl lim (PySem.W.codeRec_of KX hcd) rfl hb S.nocell (fun ⟨n, v⟩ hy => S.par n (List.of_mem_zip hy).1) (fun h₀ hns kp => ?_) S.co S.gen S.kind
  obtain ⟨t, pr, hst⟩ := hbody A outer s H vs Q E (hr.deeper _) hsp
  have I : Inv (cxS CX P w K mg base N qual scope f (.ref cd) cc A outer s H E) [] (L2.start N vs) H { s with heap := h₀, toks := s.toks + (ps.zip us).length } := inv_startS S hr.hd e0 hl r ⟨_, e0.mod.kin _ _ lkcell, _, rfl⟩ hns kp
  refine PySem.ks_wpAt_execs_cons ?_
  refine PySem.ks_wpAt_mono (hst _ I) (fun fl s' hh => ?_) fun _ _ z => z
  obtain ⟨rfl, σ1, H1, I1, q1⟩ := hh
  refine PySem.wpAt_of_wpAny (wpAny_mono (pr.run [] s' _ H1 _ I1 q1) (fun fl s2 hs => ?_) fun _ _ z => z)
  have fin : ∀ {σ' : L2.St} {H' : Hp} {v : V} {u : Value}, Inv (cxS CX P w K mg base N qual scope f (.ref cd) cc A outer s H E) [] σ' H' s2 → L2.RelV v u → Q v H' → CE outer P w H s Q u s2 :=
    fun {σ' H' v u} J rv q => ⟨v, H', J.os, J.bare, J.base, J.hok, rv, q⟩
  cases fl with
  | ret u =>
    obtain ⟨v, σ', H', J, rv, q⟩ := hs
    exact fin J rv q
  | next =>
    obtain ⟨σ', H', J, q⟩ := hs
    exact fin (v := V.non) (u := Value.none) J rfl q
  | brk =>
    obtain ⟨_, _, _, q⟩ := hs
    exact False.elim q
  | cont =>
    obtain ⟨_, _, _, q⟩ := hs
    exact False.elim q
end
end Bx
-- needs excM clsrules superM
-- imports HandS.HeadNt HandS.HeadHook4 HandS.HeadWalk
/-! the head's facts: names, defs, defs at any address, __init__s that say super(), one more Bool, the empty tables of code objects -/
namespace Bx
open PySem PySem.Spec PyProof.Rows L2
def fnS (K : PySem.W.Frag) (a : Addr) : He.FnW := match K.lookup a with
  | some ⟨_, _, .func fd, _⟩ => some (fd.name, fd.qualname, fd.params, fd.body, fd.scope, fd.globals, fd.closure.map fun q => (q.1, 0), fd.builtins)
  | _ => none
/-- an own exception's __init__ that says super(), or a method m of a plain class whose base bs has m too -/
structure DefS where
  cls : Str
  m : Str
  bs : Str
  qual : Str
  params : Arguments
  body : List Stmt
  scope : Scope
  file : Str
  eb : EB
def DefS.at_ (K : PySem.W.Frag) (d : DefS) : Addr := He.ma K (He.ga K d.cls) d.m
def DefS.val (d : DefS) : He.FnW := some (d.m, d.qual, d.params, .stmts d.body, d.scope, mainGlobals, [("__class__", 0)], builtinsNs)
def fileB (K : PySem.W.Frag) (cd : Value) (file : Str) : Bool := match cd with
  | .ref c => (match K.lookup c with
      | some ⟨_, _, .fields vs, _⟩ => (match vs.toList with | _ :: _ :: .str y _ :: _ => y == file | _ => false)
      | _ => false)
  | _ => false
def cellB (K : PySem.W.Frag) (cl : List (Str × Addr)) (C : Addr) : Bool := match cl with
  | [(_, cc)] => (match K.lookup cc with
      | some ⟨_, _, .cell (some (.ref D)), _⟩ => decide (D = C)
      | _ => false)
  | _ => false
def oexB (eb : EB) (K : PySem.W.Frag) (C : Addr) : Bool := match K.lookup C with
  | some ⟨.type t, _, .cls cd, sl⟩ => decide (t = "type") && (match cd.mro, sl.toList with
    | .ref C' :: bm, [_, _, _, _, some (.builtin n), _] => decide (C' = C) && (decide (n = eb.new) && (!cd.hasDel && (cd.hasDict && PySem.W.excTail eb.mro bm)))
    | _, _ => false)
  | _ => false
theorem oexB_ok {eb : EB} {K : PySem.W.Frag} {C : Addr} (h : oexB eb K C = true) : ∃ nm q N bs bm sn sub ab col dd k0 k1 k2 k3 k5, K.lookup C = some (excClassObj nm q C N bs bm true sn sub ab col dd k0 k1 k2 k3 k5 eb.new) ∧ PySem.W.excTail eb.mro bm = true := by
  unfold oexB at h
  split at h
  · rename_i t dd cd sl ho
    obtain ⟨ht, hh⟩ := He.ba h
    clear h
    obtain rfl := of_decide_eq_true ht
    split at hh
    · rename_i C' bm k0 k1 k2 k3 n k5 hm hs
      obtain ⟨h1, h⟩ := He.ba hh
      obtain ⟨h2, h⟩ := He.ba h
      obtain ⟨h3, h⟩ := He.ba h
      obtain ⟨h4, h5⟩ := He.ba h
      obtain rfl := of_decide_eq_true h1
      obtain rfl := of_decide_eq_true h2
      obtain ⟨nm, bs, mro, ns, qn, hd, sn, sb, ab, col, del⟩ := cd
      dsimp only at hm h3 h4
      subst hm h4
      have h3' : del = false := by cases del <;> first | rfl | cases h3
      subst h3'
      have hsl : sl = #[k0, k1, k2, k3, some (.builtin eb.new), k5] := by
        obtain ⟨l⟩ := sl
        simp only at hs
        rw [hs]
      subst hsl
      exact ⟨nm, qn, ns, bs, bm, sn, sb, ab, col, dd, k0, k1, k2, k3, k5, ho, h5⟩
    · cases hh
  · cases h
def DefS.okX (K : PySem.W.Frag) (d : DefS) : Bool := (oexB d.eb K (He.ga K d.cls) && (He.eqO (PySem.W.findIn K (.ref (He.ga K d.cls)) "__setattr__") (some (some (.builtin "object.__setattr__"))) && (decide (PySem.W.subIn K (.ref (He.ga K d.cls)) (.type "BaseException") = some true) && (decide (PySem.W.typeIn K (.ref (He.ga K d.cls)) = some (.type "type")) && (PySem.W.keepIn K (.ref (He.ga K d.cls)) &&
    (He.eqO (PySem.W.findIn K (.ref (He.ga K d.cls)) "__init__") (some (some (.ref (d.at_ K)))) && (decide (PySem.W.typeIn K (.ref (d.at_ K)) = some (.type "function")) && (xfB K (He.ga K d.cls) && (He.eqO (PySem.W.findIn K (.ref (He.ga K d.cls)) "tag") (some none) &&
    (decide (PySem.W.mroIn K (He.ga K d.cls) (.ref (He.ga K d.cls)) = some true) && (He.eqO (PySem.W.ks_superIn K (He.ga K d.cls) (He.ga K d.cls) "__init__") (some (some (.builtin d.eb.ini))) && (decide (PySem.W.subIn K (.ref (He.ga K d.cls)) (.type d.eb.nm) = some true) && He.eqO (PySem.W.nsIn K cStatics "thirdparty.any") (some none)))))))))))))
/-- the base's method -/
def DefS.up (K : PySem.W.Frag) (d : DefS) : Addr := He.ma K (He.ga K d.bs) d.m
def DefS.okM (K : PySem.W.Frag) (d : DefS) : Bool := (PySem.W.clsIn K (He.ga K d.cls)).isSome && (decide (PySem.W.mroIn K (He.ga K d.cls) (.ref (He.ga K d.cls)) = some true) && (He.eqO (PySem.W.ks_superIn K (He.ga K d.cls) (He.ga K d.cls) d.m) (some (some (.ref (d.up K)))) &&
  (decide (PySem.W.typeIn K (.ref (d.up K)) = some (.type "function")) && (PySem.W.fnIn K (d.up K) && He.eqO (PySem.W.nsIn K cStatics "thirdparty.any") (some none)))))
def DefS.ok (K : PySem.W.Frag) (d : DefS) : Bool := (match K.lookup (d.at_ K) with
  | some ⟨_, _, .func fd, _⟩ => PySem.W.codeIn K fd.code d.qual && (fileB K fd.code d.file && (cellB K fd.closure (He.ga K d.cls) && (decide (fd.defaults = .none) && (d.bs != "" || decide (fd.kwdefaults = .none)))))
  | _ => false) && (if d.bs = "" then d.okX K else d.okM K)
theorem fileB_ok {K : PySem.W.Frag} {cd : Value} {file : Str} (h : fileB K cd file = true) : ∃ (c : Addr) (cl : Value) (cdd : Option Addr) (vs : Array Value) (ccs : Array (Option Value)) (tf : PySem.Tok), cd = .ref c ∧ K.lookup c = some ⟨cl, cdd, .fields vs, ccs⟩ ∧ vs[2]? = some (.str file tf) := by
  unfold fileB at h
  split at h
  · rename_i c
    split at h
    · rename_i cl cdd vs ccs ho
      split at h
      · rename_i a b y t r hv
        obtain rfl : y = file := by simpa using h
        refine ⟨c, cl, cdd, vs, ccs, t, rfl, ho, ?_⟩
        have e : vs.toList[2]? = some (.str y t) := by rw [hv]; rfl
        simpa using e
      · cases h
    · cases h
  · cases h
theorem cellB_ok {K : PySem.W.Frag} {cl : List (Str × Addr)} {C : Addr} (h : cellB K cl C = true) : ∃ (x : Str) (cc : Addr) (kc : Value) (kd : Option Addr) (ks : Array (Option Value)), cl = [(x, cc)] ∧ K.lookup cc = some ⟨kc, kd, .cell (some (.ref C)), ks⟩ := by
  unfold cellB at h
  split at h
  · rename_i x cc
    split at h
    · rename_i kc kd D ks ho
      obtain rfl := of_decide_eq_true h
      exact ⟨x, cc, kc, kd, ks, rfl, ho⟩
    · cases h
  · cases h
/-- the function object -/
theorem DefS.fd {K : PySem.W.Frag} {d : DefS} (e : fnS K (d.at_ K) = d.val) (c : d.ok K = true) :
    ∃ (kV doc pm ct : Value) (an : Option Addr) (cd cc : Addr) (oc : Value) (od : Option Addr) (osl : Array (Option Value)) (ccl : Value) (cdd : Option Addr) (vs : Array Value) (ccs : Array (Option Value)) (tf : PySem.Tok) (kc : Value) (kd : Option Addr) (ks : Array (Option Value)),
      K.lookup (d.at_ K) = some ⟨oc, od, .func (PySem.W.ksFn d.m d.qual d.params d.body d.scope .none kV doc pm an (.ref cd) ct cc), osl⟩ ∧ PySem.W.codeIn K (.ref cd) d.qual = true ∧ K.lookup cd = some ⟨ccl, cdd, .fields vs, ccs⟩ ∧ vs[2]? = some (.str d.file tf) ∧ K.lookup cc = some ⟨kc, kd, .cell (some (.ref (He.ga K d.cls))), ks⟩ ∧ (d.bs = "" → kV = .none) ∧ (if d.bs = "" then d.okX K else d.okM K) = true := by
  unfold DefS.ok at c
  obtain ⟨c0, c1⟩ := He.ba c
  unfold fnS at e
  cases q : K.lookup (d.at_ K) with
  | none =>
    rw [q] at c0
    cases c0
  | some o =>
    obtain ⟨oc, od, dt, osl⟩ := o
    rw [q] at c0 e
    cases dt with
    | func fd =>
      obtain ⟨n1, n2, n3, n4, n5, n6, n7, n8, n9, n10, n11, n12, n13, n14, n15⟩ := fd
      have e2 : (some (n1, n2, n3, n4, n5, n6, n7.map (fun q => (q.1, 0)), n15) : He.FnW) = some (d.m, d.qual, d.params, FuncBody.stmts d.body, d.scope, mainGlobals, [(("__class__" : Str), 0)], builtinsNs) := e
      simp only [Option.some.injEq, Prod.mk.injEq] at e2
      obtain ⟨h1, h2, h3, h4, h5, h6, h7, h8⟩ := e2
      subst h1 h2 h3 h4 h5 h6 h8
      have c3' : (PySem.W.codeIn K n13 d.qual && (fileB K n13 d.file && (cellB K n7 (He.ga K d.cls) && (decide (n8 = .none) && (d.bs != "" || decide (n9 = .none)))))) = true := c0
      obtain ⟨k1, k⟩ := He.ba c3'
      obtain ⟨k2, k⟩ := He.ba k
      obtain ⟨k3, k⟩ := He.ba k
      obtain ⟨k4, k5⟩ := He.ba k
      obtain rfl := of_decide_eq_true k4
      obtain ⟨cd, ccl, cdd, vs, ccs, tf, rfl, lc, hv⟩ := fileB_ok k2
      obtain ⟨x, cc, kc, kd, ks, rfl, lcc⟩ := cellB_ok k3
      have hx : x = "__class__" := by
        have := List.cons.inj h7
        exact (Prod.mk.inj this.1).1
      subst hx
      refine ⟨n9, n10, n11, n14, n12, cd, cc, oc, od, osl, ccl, cdd, vs, ccs, tf, kc, kd, ks, rfl, k1, lc, hv, lcc, fun hb => ?_, c1⟩
      rw [hb] at k5
      exact of_decide_eq_true k5
    | _ => cases c0
/-- what the head tells of such a class -/
theorem DefS.get {P : Program} {K : PySem.W.Frag} {d : DefS} (MP : MainP P d.file) (hs : ∃ ar, (d.params.posonlyargs ++ d.params.args).head? = some ar ∧ ar.arg = "self") (hb : d.bs = "") (hm : d.m = "__init__") (e : fnS K (d.at_ K) = d.val) (c : d.ok K = true) :
    ∃ (kV doc pm ct : Value) (an : Option Addr) (cd cc : Addr), SupF d.eb P K (He.ga K d.cls) (d.at_ K) cc cd (PySem.W.ksFn "__init__" d.qual d.params d.body d.scope .none .none doc pm an (.ref cd) ct cc) ∧ PySem.W.codeIn K (.ref cd) d.qual = true ∧ ExcK d.eb K (He.ga K d.cls) (d.at_ K) := by
  obtain ⟨kV, doc, pm, ct, an, cd, cc, oc, od, osl, ccl, cdd, vs, ccs, tf, kc, kd, ks, q, k1, lc, hv, lcc, hk, c⟩ := DefS.fd e c
  obtain rfl := hk hb
  rw [if_pos hb] at c
  rw [hm] at q
  unfold DefS.okX at c
  obtain ⟨c1, c⟩ := He.ba c
  obtain ⟨c2, c⟩ := He.ba c
  obtain ⟨c3, c⟩ := He.ba c
  obtain ⟨c4, c⟩ := He.ba c
  obtain ⟨c5, c⟩ := He.ba c
  obtain ⟨c6, c⟩ := He.ba c
  obtain ⟨c7, c⟩ := He.ba c
  obtain ⟨c8, c⟩ := He.ba c
  obtain ⟨c9, c⟩ := He.ba c
  obtain ⟨c10, c⟩ := He.ba c
  obtain ⟨c11, c⟩ := He.ba c
  obtain ⟨c12, c13⟩ := He.ba c
  have OX : OexG d.eb K (He.ga K d.cls) := ⟨oexB_ok c1, He.eqO_ok c2, of_decide_eq_true c3, of_decide_eq_true c4, c5⟩
  have EX : ExcK d.eb K (He.ga K d.cls) (d.at_ K) := ⟨OX, He.eqO_ok c6, of_decide_eq_true c7, xfB_ok c8, He.eqO_ok c9⟩
  exact ⟨.none, doc, pm, ct, an, cd, cc, ⟨OX, ⟨oc, od, osl, q⟩, hs, ⟨ccl, cdd, vs, ccs, d.file, tf, lc, hv, MP⟩, ⟨kc, kd, ks, lcc⟩, of_decide_eq_true c10, He.eqO_ok c11, of_decide_eq_true c12, He.eqO_ok c13⟩, k1, EX⟩
/-- .. of such a method -/
theorem DefS.getM {P : Program} {K : PySem.W.Frag} {d : DefS} (MP : MainP P d.file) (hs : ∃ ar, (d.params.posonlyargs ++ d.params.args).head? = some ar ∧ ar.arg = "self") (hb : d.bs ≠ "") (hn : (d.m == ("__class__" : Str)) = false) (e : fnS K (d.at_ K) = d.val) (c : d.ok K = true) :
    ∃ (kV doc pm ct : Value) (an : Option Addr) (cd cc : Addr), SupM P K (He.ga K d.cls) (d.at_ K) cc cd (PySem.W.ksFn d.m d.qual d.params d.body d.scope .none kV doc pm an (.ref cd) ct cc) d.m (d.up K) ∧ PySem.W.codeIn K (.ref cd) d.qual = true := by
  obtain ⟨kV, doc, pm, ct, an, cd, cc, oc, od, osl, ccl, cdd, vs, ccs, tf, kc, kd, ks, q, k1, lc, hv, lcc, hk, c⟩ := DefS.fd e c
  rw [if_neg hb] at c
  unfold DefS.okM at c
  obtain ⟨c1, c⟩ := He.ba c
  obtain ⟨c2, c⟩ := He.ba c
  obtain ⟨c3, c⟩ := He.ba c
  obtain ⟨c4, c⟩ := He.ba c
  obtain ⟨c5, c6⟩ := He.ba c
  exact ⟨kV, doc, pm, ct, an, cd, cc, ⟨⟨oc, od, osl, q⟩, hs, ⟨ccl, cdd, vs, ccs, d.file, tf, lc, hv, MP⟩, ⟨kc, kd, ks, lcc⟩, Option.isSome_iff_exists.mp c1, of_decide_eq_true c2, He.eqO_ok c3, of_decide_eq_true c4, c5, He.eqO_ok c6, hn⟩, k1⟩
def cellsOf (g : Addr → Option Obj) (as : List Addr) : List Addr := as.flatMap fun a => match g a with
  | some ⟨_, _, .func fd, _⟩ => fd.closure.map (·.2)
  | _ => []
def withCells (g : Addr → Option Obj) (as : List Addr) : List Addr := as ++ cellsOf g as
def asW (g : Addr → Option Obj) (n : Nat) : List Addr := withCells g (He5.asA g n)
abbrev AlW : Type := He.AlD × He.AlD × He.AlD × Bool
def obsWK (fa : List He.Fa) (fn : List He.DefD) (fna : List He5.DefA) (fns : List DefS) (tf : List He.Defn) (ex : PySem.W.Frag → Bool) (g : Addr → Option Obj) (K : PySem.W.Frag) : AlW :=
  (He.obsD fa fn K, He5.obsA [] fna K, (fns.all fun d => d.ok K, fns.map fun d => fnS K (d.at_ K)), ex K && He.tabsB g tf K)
def obsW (n : Nat) (fa : List He.Fa) (fn : List He.DefD) (fna : List He5.DefA) (fns : List DefS) (tf : List He.Defn) (ex : PySem.W.Frag → Bool) (g : Addr → Option Obj) : AlW := obsWK fa fn fna fns tf ex g (He.frT g (asW g n))
def valW (fn : List He.DefD) (fna : List He5.DefA) (fns : List DefS) : AlW := (He.valD fn, He5.valA fna, (true, fns.map DefS.val), true)
def SaysS (fns : List DefS) (K : PySem.W.Frag) : Prop := ((fns.all fun d => d.ok K, fns.map fun d => fnS K (d.at_ K)) : He.AlD) = (true, fns.map DefS.val)
theorem SaysS.def_ {fns : List DefS} {K : PySem.W.Frag} (c : SaysS fns K) (i : Nat) {d : DefS} (h : fns[i]? = some d := by rfl) : fnS K (d.at_ K) = d.val ∧ d.ok K = true := by
  have c1 : (fns.all fun d => d.ok K) = true := congrArg (fun z : He.AlD => z.1) c
  have c2 : (fns.map fun d => fnS K (d.at_ K)) = fns.map DefS.val := congrArg (fun z : He.AlD => z.2) c
  have c3 : (fns.map fun d => fnS K (d.at_ K))[i]? = (fns.map DefS.val)[i]? := by rw [c2]
  rw [List.getElem?_map, List.getElem?_map, h] at c3
  exact ⟨Option.some.inj c3, List.all_eq_true.mp c1 d (List.mem_of_getElem? h)⟩
structure SaysW (fa : List He.Fa) (fn : List He.DefD) (fna : List He5.DefA) (fns : List DefS) (tf : List He.Defn) (ex : PySem.W.Frag → Bool) (h : Heap) (K : PySem.W.Frag) : Prop where
  d : He.SaysD fa fn K
  a : He5.SaysA [] fna K
  s : SaysS fns K
  more : ex K = true
  hd : ∀ p ∈ tf, PySem.W.codeHdIn K (He.cT K p).1 (He.cT K p).2 = true
  out : ∀ p ∈ tf, K.lookup (He.cT K p).2 = none
  empty : ∀ p ∈ tf, h.get? (He.cT K p).2 = some { cls := .none, data := .fields #[] }
theorem saysW_of {n : Nat} {fa : List He.Fa} {fn : List He.DefD} {fna : List He5.DefA} {fns : List DefS} {tf : List He.Defn} {ex : PySem.W.Frag → Bool} {h : Heap} (e : obsW n fa fn fna fns tf ex h.get? = valW fn fna fns) : SaysW fa fn fna fns tf ex h (He.frT h.get? (asW h.get? n)) := by
  unfold obsW at e
  generalize hK : He.frT h.get? (asW h.get? n) = K at e ⊢
  have e1 : He.obsD fa fn K = He.valD fn := congrArg (fun z : AlW => z.1) e
  have e2 : He5.obsA [] fna K = He5.valA fna := congrArg (fun z : AlW => z.2.1) e
  have e3 := congrArg (fun z : AlW => z.2.2.1) e
  have e4 : (ex K && He.tabsB h.get? tf K) = true := congrArg (fun z : AlW => z.2.2.2) e
  obtain ⟨h1, h2⟩ := He.ba e4
  have key : ∀ p ∈ tf, PySem.W.codeHdIn K (He.cT K p).1 (He.cT K p).2 = true ∧ ∃ o, h.get? (He.cT K p).2 = some o ∧ He.emptyTab o = true := fun p hp => by
    obtain ⟨h3, h4⟩ := He.ba (List.all_eq_true.mp h2 p hp)
    refine ⟨h3, ?_⟩
    cases q : h.get? (He.cT K p).2 with
    | none => rw [q] at h4; cases h4
    | some o => rw [q] at h4; exact ⟨o, rfl, h4⟩
  refine ⟨e1, e2, e3, h1, fun p hp => (key p hp).1, fun p hp => ?_, fun p hp => ?_⟩
  · obtain ⟨_, o, q, z⟩ := key p hp
    rw [← hK] at q ⊢
    exact He.frT_none q z
  · obtain ⟨_, o, q, z⟩ := key p hp
    rw [q, He.emptyTab_eq z]
def hookW (n : Nat) (fa : List He.Fa) (fn : List He.DefD) (fna : List He5.DefA) (fns : List DefS) (tf : List He.Defn) (ex : PySem.W.Frag → Bool) : PySem.W.Hook where
  α := AlW
  obs := fun s => obsW n fa fn fna fns tf ex s.heap.get?
  val := fun _ => valW fn fna fns
  says := fun _ h => ∃ K : PySem.W.Frag, K.In h ∧ SaysW fa fn fna fns tf ex h K
  of := fun _ _ e => ⟨_, He.frT_in, saysW_of e⟩
  keeps := fun _ _ _ ⟨K, hK, c⟩ k => ⟨K, PySem.W.Frag.In.keeps hK k, ⟨c.d, c.a, c.s, c.more, c.hd, c.out, fun p hp => k _ _ (c.empty p hp)⟩⟩
theorem obsW_eq {n : Nat} {fa : List He.Fa} {fn : List He.DefD} {fna : List He5.DefA} {fns : List DefS} {tf : List He.Defn} {ex : PySem.W.Frag → Bool} {g : Addr → Option Obj} {s : Shared} (h : ∀ a, g a = s.heap.get? a) : obsW n fa fn fna fns tf ex g = (hookW n fa fn fna fns tf ex).obs s := by
  have e : g = s.heap.get? := funext h
  rw [e] <;> rfl
/-- the end of a law with lambdas -/
theorem closingW {fal : List He.Fa} {fnl : List He.DefD} {fna : List He5.DefA} {fns : List DefS} {xf : PySem.W.Frag → Bool} {l : PySem.W.OpenLaw} {w : World} {K : PySem.W.Frag} {h : Heap} {mg : Str → Option Value} {fa : Addr} {k : Nat} {sp : PySem.W.Frag → Sp} {pa : Arguments} {bd : List Stmt} {sc : Scope}
    (KX : K.In h) (G : h.Ns mainGlobals mg) (hmg : mg ("law" : Str) = some (.ref fa)) (c : SaysW fal fnl fna fns [("law", none)] xf h K) (gl : Env fal fnl fna xf K mg → mg ("law" : Str) = some (.ref (He.ga K "law")))
    (D : ∃ fd, FunD K "law" "law" pa bd sc [] [] (He.ga K "law") fd)
    (F : ∀ (base : Heap) (fd : FuncData), Env fal fnl fna xf K mg → SaysS fns K → LamX.TabB base mg (He.cT K ("law", none)).1 (He.cT K ("law", none)).2 → FunD K "law" "law" pa bd sc [] [] (He.ga K "law") fd → FnOk l.prog w K mg base CX0 k (He.ga K "law") fd ["script"] (sp K))
    (b : ∀ {fd : FuncData}, FunD K "law" "law" pa bd sc [] [] (He.ga K "law") fd → ∀ (s : Shared) (v : Value), BindsTo s fd ⟨[v], []⟩ [("script", v)])
    (hsp : ∀ (H : Hp) (a : Addr) (ns : List Int), ns.length ≤ 63 → H (He.cT K ("law", none)).2 = some (.tbl #[]) → SqL K H a (ns.map V.int) → sp K [.ref a] H (fun v _ => v = .bl true) fun _ _ _ => False) :
    LamX.LawAtS l w K CX0 k 63 "script" mg fa h := by
  have E : Env fal fnl fna xf K mg := ⟨⟨h, KX, G⟩, c.d, c.a, c.more⟩
  obtain ⟨fd, hD⟩ := D
  have e := (gl E).symm.trans hmg
  cases e
  have m1 : (("law", none) : He.Defn) ∈ ([("law", none)] : List He.Defn) := List.mem_singleton.mpr rfl
  have on : ∀ {p : Addr × Addr}, p ∈ [He.cT K ("law", none)] → p = He.cT K ("law", none) := fun hp => List.mem_singleton.mp hp
  refine ⟨fd, [He.cT K ("law", none)], sp K, fun p hp => ?_, fun p hp => ?_, fun p hp => ?_, b hD, fun H a ns hl _ hT hS => hsp H a ns hl (hT _ (List.mem_singleton.mpr rfl)) hS, fun base _ _ hTB => F base fd E c.s (hTB _ (List.mem_singleton.mpr rfl)) hD⟩
  · rw [on hp]; exact c.empty _ m1
  · rw [on hp]; exact c.out _ m1
  · rw [on hp]; exact PySem.W.codeHd_of_K KX (c.hd _ m1)
/-- a def whose code object is told: for what makes defs of its own -/
theorem _root_.L2.FunD.okC {P : Program} {w : World} {K : PySem.W.Frag} {mg : Str → Option Value} {base : Heap} {x : Str} {params : Arguments} {body : List Stmt} {scope : Scope} {dvs : List V} {kws : List (Str × V)} {fd : FuncData} {CX : CXT} {N ps : List Str} {k : Nat} {sp : Sp} (F : FunD K x x params body scope dvs kws (He.ga K x) fd) (S : FnScope N ps scope) (len : ∀ vs H Q E, sp vs H Q E → vs.length = ps.length)
    (hbody : ∀ (A : Around) (outer : List PySem.Env) (s : Shared) (H : Hp) (vs : List V) (Q : VK) (E : XK), Room k (A.deeper (envOfC x scope s.heap.objs.size (He.ga K x) (.ref (He.cT K (x, none)).1))) → sp vs H Q E →
      ∃ t, PSs (cxOf CX P w K mg base N x scope (He.ga K x) (.ref (He.cT K (x, none)).1) A outer s H E) body t ∧ t { nx := fun _ H' => Q .non H', rt := Q } (L2.start N vs) H) : FnOk P w K mg base CX (k + 1) (He.ga K x) fd ps sp := by
  obtain ⟨oc, od, dV, kV, doc, pm, an, cdv, ct, osl, rfl, lk, hcd, _, _⟩ := F.ex
  obtain ⟨c, rfl⟩ := He.codeIn_ref hcd
  have e : He.codeOf K (x, none) = c := He.codeOf_eq (p := (x, none)) (by exact lk) rfl
  have e2 : (He.cT K (x, none)).1 = c := e
  rw [e2] at hbody
  exact fn_of lk hcd S len fun A outer s H vs Q E hr hsp => hbody A outer s H vs Q E hr hsp
end Bx
-- needs hookW
/-! the head's facts over a list of addresses that is told (the kernel need not look for it) -/
namespace Bx
open PySem PySem.Spec PyProof.Rows L2
def obsL (as : List Addr) (fa : List He.Fa) (fn : List He.DefD) (fna : List He5.DefA) (fns : List DefS) (tf : List He.Defn) (ex : PySem.W.Frag → Bool) (g : Addr → Option Obj) : AlW := obsWK fa fn fna fns tf ex g (He.frT g as)
theorem saysL_of {as : List Addr} {fa : List He.Fa} {fn : List He.DefD} {fna : List He5.DefA} {fns : List DefS} {tf : List He.Defn} {ex : PySem.W.Frag → Bool} {h : Heap} (e : obsL as fa fn fna fns tf ex h.get? = valW fn fna fns) : SaysW fa fn fna fns tf ex h (He.frT h.get? as) := by
  unfold obsL at e
  generalize hK : He.frT h.get? as = K at e ⊢
  have e1 : He.obsD fa fn K = He.valD fn := congrArg (fun z : AlW => z.1) e
  have e2 : He5.obsA [] fna K = He5.valA fna := congrArg (fun z : AlW => z.2.1) e
  have e3 := congrArg (fun z : AlW => z.2.2.1) e
  have e4 : (ex K && He.tabsB h.get? tf K) = true := congrArg (fun z : AlW => z.2.2.2) e
  obtain ⟨h1, h2⟩ := He.ba e4
  have key : ∀ p ∈ tf, PySem.W.codeHdIn K (He.cT K p).1 (He.cT K p).2 = true ∧ ∃ o, h.get? (He.cT K p).2 = some o ∧ He.emptyTab o = true := fun p hp => by
    obtain ⟨h3, h4⟩ := He.ba (List.all_eq_true.mp h2 p hp)
    refine ⟨h3, ?_⟩
    cases q : h.get? (He.cT K p).2 with
    | none => rw [q] at h4; cases h4
    | some o => rw [q] at h4; exact ⟨o, rfl, h4⟩
  refine ⟨e1, e2, e3, h1, fun p hp => (key p hp).1, fun p hp => ?_, fun p hp => ?_⟩
  · obtain ⟨_, o, q, z⟩ := key p hp
    rw [← hK] at q ⊢
    exact He.frT_none q z
  · obtain ⟨_, o, q, z⟩ := key p hp
    rw [q, He.emptyTab_eq z]
def hookL (as : List Addr) (fa : List He.Fa) (fn : List He.DefD) (fna : List He5.DefA) (fns : List DefS) (tf : List He.Defn) (ex : PySem.W.Frag → Bool) : PySem.W.Hook where
  α := AlW
  obs := fun s => obsL as fa fn fna fns tf ex s.heap.get?
  val := fun _ => valW fn fna fns
  says := fun _ h => ∃ K : PySem.W.Frag, K.In h ∧ SaysW fa fn fna fns tf ex h K
  of := fun _ _ e => ⟨_, He.frT_in, saysL_of e⟩
  keeps := fun _ _ _ ⟨K, hK, c⟩ k => ⟨K, PySem.W.Frag.In.keeps hK k, ⟨c.d, c.a, c.s, c.more, c.hd, c.out, fun p hp => k _ _ (c.empty p hp)⟩⟩
theorem obsL_eq {as : List Addr} {fa : List He.Fa} {fn : List He.DefD} {fna : List He5.DefA} {fns : List DefS} {tf : List He.Defn} {ex : PySem.W.Frag → Bool} {g : Addr → Option Obj} {s : Shared} (h : ∀ a, g a = s.heap.get? a) : obsL as fa fn fna fns tf ex g = (hookL as fa fn fna fns tf ex).obs s := by
  have e : g = s.heap.get? := funext h
  rw [e] <;> rfl
end Bx
-- needs lists
/-! data of any depth in a heap that grows -/
namespace Bx
open PySem PySem.Spec PyProof.Rows L2
mutual
theorem Dp.same {K : PySem.W.Frag} {H H' : Hp} (e : Same H H') : ∀ {d : PyData} {v : V}, Dp K H v d → Dp K H' v d
  | .none, _, h => by cases h; exact .non
  | .bool _, _, h => by cases h; exact .bl _
  | .int _, _, h => by cases h; exact .int _
  | .str _, _, h => by cases h; exact .str _
  | .list _, _, h => by
    cases h with
    | lst hs ha => exact .lst (e.seq hs) (Dp.sameAll e ha)
  | .tuple _, _, h => by
    cases h with
    | tup hs ha => exact .tup (seqT e hs) (Dp.sameAll e ha)
  | .dict _, _, h => by cases h
theorem Dp.sameAll {K : PySem.W.Frag} {H H' : Hp} (e : Same H H') : ∀ {ds : List PyData} {vs : List V}, DpAll K H vs ds → DpAll K H' vs ds
  | [], _, h => by cases h; exact .nil
  | _ :: _, _, h => by
    cases h with
    | cons h1 h2 => exact .cons (Dp.same e h1) (Dp.sameAll e h2)
end
theorem DpAll.length {K : PySem.W.Frag} {H : Hp} : ∀ {ds : List PyData} {vs : List V}, DpAll K H vs ds → vs.length = ds.length
  | [], _, h => by cases h; rfl
  | _ :: _, _, h => by
    cases h with
    | cons h1 h2 => exact congrArg Nat.succ (DpAll.length h2)
theorem DpAll.get {K : PySem.W.Frag} {H : Hp} : ∀ {ds : List PyData} {vs : List V} {i : Nat} {v : V}, DpAll K H vs ds → vs[i]? = some v → ∃ d, ds[i]? = some d ∧ Dp K H v d
  | [], _, _, _, h, e => by cases h; cases e
  | _ :: _, _, 0, _, h, e => by
    cases h with
    | cons h1 h2 =>
      cases e
      exact ⟨_, rfl, h1⟩
  | _ :: _, _, i + 1, _, h, e => by
    cases h with
    | cons h1 h2 =>
      obtain ⟨d, q1, q2⟩ := DpAll.get (i := i) h2 (by simpa using e)
      exact ⟨d, by simpa using q1, q2⟩
theorem DpAll.append {K : PySem.W.Frag} {H : Hp} : ∀ {ds es : List PyData} {vs us : List V}, DpAll K H vs ds → DpAll K H us es → DpAll K H (vs ++ us) (ds ++ es)
  | [], _, _, _, h, g => by cases h; exact g
  | _ :: _, _, _, _, h, g => by
    cases h with
    | cons h1 h2 => exact .cons h1 (DpAll.append h2 g)
theorem DpAll.one {K : PySem.W.Frag} {H : Hp} {d : PyData} {v : V} (h : Dp K H v d) : DpAll K H [v] [d] := .cons h .nil
/-- two things of one tuple -/
theorem Dp.pair {K : PySem.W.Frag} {H : Hp} {v : V} {d e : PyData} (h : Dp K H v (.tuple [d, e])) : ∃ a x y, v = .ref a ∧ SqT K H a [x, y] ∧ Dp K H x d ∧ Dp K H y e := by
  cases h with
  | @tup a xs _ hs ha =>
    cases ha with
    | cons h1 h2 =>
      cases h2 with
      | cons h3 h4 =>
        cases h4
        exact ⟨_, _, _, rfl, hs, h1, h3⟩
theorem Dp.lst' {K : PySem.W.Frag} {H : Hp} {v : V} {ds : List PyData} (h : Dp K H v (.list ds)) : ∃ a xs, v = .ref a ∧ SqL K H a xs ∧ DpAll K H xs ds := by
  cases h with
  | lst hs ha => exact ⟨_, _, rfl, hs, ha⟩
theorem Dp.int' {K : PySem.W.Frag} {H : Hp} {v : V} {i : Int} (h : Dp K H v (.int i)) : v = .int i := by cases h; rfl
theorem Dp.str' {K : PySem.W.Frag} {H : Hp} {v : V} {x : Str} (h : Dp K H v (.str x)) : v = .str x := by cases h; rfl
theorem Dp.bl' {K : PySem.W.Frag} {H : Hp} {v : V} {x : Bool} (h : Dp K H v (.bool x)) : v = .bl x := by cases h; rfl
theorem Dp.non' {K : PySem.W.Frag} {H : Hp} {v : V} (h : Dp K H v .none) : v = .non := by cases h; rfl
end Bx
namespace Bx
open PySem PySem.Spec PyProof.Rows L2
/-- all that is no list is as it was -/
def SameT (H H' : Hp) : Prop := ∀ a o, H a = some o → (∀ ys, o ≠ .lst ys) → H' a = some o
theorem SameT.refl (H : Hp) : SameT H H := fun _ _ h _ => h
theorem SameT.trans {H H1 H2 : Hp} (x : SameT H H1) (y : SameT H1 H2) : SameT H H2 := fun a o h n => y a o (x a o h n) n
theorem SameT.of {H H' : Hp} (e : Same H H') : SameT H H' := fun a o h _ => e a o h
theorem SameT.put {H : Hp} {a : Addr} {xs : List V} {o : HO} (h : H a = some (.lst xs)) : SameT H (L2.upd H a o) := fun b u q n => by
  have nb : b ≠ a := fun z => by
    rw [z, h] at q
    exact n _ (Option.some.inj q).symm
  rw [upd_ne nb]
  exact q
theorem SameT.new {H : Hp} {p : Addr} {o : HO} (h : H p = none) : SameT H (L2.upd H p o) := .of (same_new h)
theorem SameT.seqT {K : PySem.W.Frag} {H H' : Hp} {a : Addr} {xs : List V} (e : SameT H H') (h : SqT K H a xs) : SqT K H' a xs := by
  rcases h with (h | ⟨o, h⟩) | h
  · exact .inl (.inl (e _ _ h fun _ z => by cases z))
  · exact .inl (.inr ⟨o, e _ _ h fun _ z => by cases z⟩)
  · exact .inr h
mutual
/-- no list within -/
def noL : PyData → Bool
  | .none => true
  | .bool _ => true
  | .int _ => true
  | .str _ => true
  | .list _ => false
  | .tuple ds => noLs ds
  | .dict _ => false
def noLs : List PyData → Bool
  | [] => true
  | d :: ds => noL d && noLs ds
end
mutual
theorem Dp.sameT {K : PySem.W.Frag} {H H' : Hp} (e : SameT H H') : ∀ {d : PyData} {v : V}, noL d = true → Dp K H v d → Dp K H' v d
  | .none, _, _, h => by cases h; exact .non
  | .bool _, _, _, h => by cases h; exact .bl _
  | .int _, _, _, h => by cases h; exact .int _
  | .str _, _, _, h => by cases h; exact .str _
  | .list _, _, n, _ => by cases n
  | .tuple _, _, n, h => by
    cases h with
    | tup hs ha => exact .tup (e.seqT hs) (Dp.sameTs e (by rw [noL] at n; exact n) ha)
  | .dict _, _, _, h => by cases h
theorem Dp.sameTs {K : PySem.W.Frag} {H H' : Hp} (e : SameT H H') : ∀ {ds : List PyData} {vs : List V}, noLs ds = true → DpAll K H vs ds → DpAll K H' vs ds
  | [], _, _, h => by cases h; exact .nil
  | _ :: _, _, n, h => by
    cases h with
    | cons h1 h2 =>
      rw [noLs, Bool.and_eq_true] at n
      exact .cons (Dp.sameT e n.1 h1) (Dp.sameTs e n.2 h2)
end
theorem noLs_map {α : Type} {f : α → PyData} (h : ∀ x, noL (f x) = true) : ∀ l : List α, noLs (l.map f) = true
  | [] => rfl
  | x :: l => by rw [List.map_cons, noLs, h x, noLs_map h l]; rfl
end Bx
namespace Bx
open PySem PySem.Spec PyProof.Rows L2
mutual
/-- no list or tuple has more than 90000 items -/
def smallD : PyData → Bool
  | .list ds => decide (ds.length ≤ 90000) && smallDs ds
  | .tuple ds => decide (ds.length ≤ 90000) && smallDs ds
  | _ => true
def smallDs : List PyData → Bool
  | [] => true
  | d :: ds => smallD d && smallDs ds
end
theorem smallDs_get : ∀ {ds : List PyData} {i : Nat} {d : PyData}, smallDs ds = true → ds[i]? = some d → smallD d = true
  | [], _, _, _, h => by cases h
  | _ :: _, 0, _, s, h => by
    cases h
    rw [smallDs, Bool.and_eq_true] at s
    exact s.1
  | _ :: ds, i + 1, _, s, h => by
    rw [smallDs, Bool.and_eq_true] at s
    exact smallDs_get (ds := ds) (i := i) s.2 (by simpa using h)
theorem small_ofL {ds : List PyData} (h : smallD (.list ds) = true) : ds.length ≤ 90000 ∧ ∀ {i : Nat} {d : PyData}, ds[i]? = some d → smallD d = true := by
  rw [smallD, Bool.and_eq_true] at h
  exact ⟨of_decide_eq_true h.1, smallDs_get h.2⟩
theorem small_ofT {ds : List PyData} (h : smallD (.tuple ds) = true) : ds.length ≤ 90000 ∧ ∀ {i : Nat} {d : PyData}, ds[i]? = some d → smallD d = true := by
  rw [smallD, Bool.and_eq_true] at h
  exact ⟨of_decide_eq_true h.1, smallDs_get h.2⟩
theorem smallDs_map {α : Type} {f : α → PyData} (h : ∀ x, smallD (f x) = true) : ∀ l : List α, smallDs (l.map f) = true
  | [] => rfl
  | x :: l => by rw [List.map_cons, smallDs, h x, smallDs_map h l]; rfl
theorem smallL {ds : List PyData} (h : ds.length ≤ 90000) (h2 : smallDs ds = true) : smallD (.list ds) = true := by rw [smallD, h2, decide_eq_true h]; rfl
end Bx
namespace Bx
open PySem PySem.Spec PyProof.Rows L2
theorem depthAll_map {α : Type} {f : α → PyData} {n : Nat} (h : ∀ x, (f x).depth ≤ n) : ∀ l : List α, PyData.depthAll (l.map f) ≤ n
  | [] => Nat.zero_le _
  | x :: l => by
    rw [List.map_cons, PyData.depthAll]
    exact Nat.max_le.mpr ⟨h x, depthAll_map h l⟩
end Bx
-- needs deep
/-! pairs of numbers, their runs, their letters -/
namespace Bx
open PySem PySem.Spec PyProof.Rows L2
/-- a pair with numbers from 0 on, not both 0, below 2 ^ 4000 -/
def okP (x y : Nat) : Prop := ¬ (x = 0 ∧ y = 0) ∧ x < 2 ^ 4000 ∧ y < 2 ^ 4000
def PairAt (K : PySem.W.Frag) (H : Hp) (v : V) (x y : Nat) : Prop := ∃ a, v = .ref a ∧ SqT K H a [.int (x : Int), .int (y : Int)]
theorem PairAt.same {K : PySem.W.Frag} {H H' : Hp} {v : V} {x y : Nat} (h : PairAt K H v x y) (e : Same H H') : PairAt K H' v x y := by
  obtain ⟨a, e1, h⟩ := h
  exact ⟨a, e1, seqT e h⟩
theorem at2_0 (a b : V) : atI [a, b] 0 = some a := rfl
theorem at2_1 (a b : V) : atI [a, b] 1 = some b := rfl
/-- the runs from the top: true is X -/
def R (x y : Nat) : List (Bool × Nat) :=
  if h : 0 < x ∧ 0 < y ∧ x ≠ y then
    if x > y then (true, (x - 1) / y) :: R (x - (x - 1) / y * y) y else (false, (y - 1) / x) :: R x (y - (y - 1) / x * x)
  else []
termination_by x + y
decreasing_by
  · have h1 : 0 < (x - 1) / y := Nat.div_pos (by omega) h.2.1
    have h2 : 0 < (x - 1) / y * y := Nat.mul_pos h1 h.2.1
    omega
  · have h1 : 0 < (y - 1) / x := Nat.div_pos (by omega) h.1
    have h2 : 0 < (y - 1) / x * x := Nat.mul_pos h1 h.1
    omega
theorem R_nil {x y : Nat} (h : ¬ (0 < x ∧ 0 < y ∧ x ≠ y)) : R x y = [] := by rw [R, dif_neg h]
theorem R_x {x y : Nat} (h : 0 < y) (h2 : x > y) : R x y = (true, (x - 1) / y) :: R (x - (x - 1) / y * y) y := by
  rw [R, dif_pos ⟨by omega, h, by omega⟩, if_pos h2]
theorem R_y {x y : Nat} (h : 0 < x) (h2 : y > x) : R x y = (false, (y - 1) / x) :: R x (y - (y - 1) / x * x) := by
  rw [R, dif_pos ⟨h, by omega, by omega⟩, if_neg (by omega)]
theorem dm_le (x y : Nat) : (x - 1) / y * y ≤ x := Nat.le_trans (Nat.div_mul_le_self _ _) (Nat.sub_le _ _)
theorem dm_lt {x y : Nat} (h : 0 < y) (h2 : x > y) : x - (x - 1) / y * y < x ∧ 0 < x - (x - 1) / y * y := by
  have h1 : 0 < (x - 1) / y := Nat.div_pos (by omega) h
  have h3 : 0 < (x - 1) / y * y := Nat.mul_pos h1 h
  have h4 : (x - 1) / y * y ≤ x - 1 := Nat.div_mul_le_self _ _
  omega
theorem cast_div {x y : Nat} (h : 0 < x) : ((x : Int) - 1) / (y : Int) = (((x - 1) / y : Nat) : Int) := by
  rw [Int.natCast_ediv]
  congr 1
  omega
theorem cast_sub {x y : Nat} : (x : Int) - (((x - 1) / y : Nat) : Int) * (y : Int) = ((x - (x - 1) / y * y : Nat) : Int) := by
  rw [Int.ofNat_sub (dm_le x y), Int.natCast_mul]
def letS (b : Bool) : Str := if b then "X" else "Y"
def runD (r : Bool × Nat) : PyData := .tuple [.str (letS r.1), .int (r.2 : Int)]
def runsD (l : List (Bool × Nat)) : PyData := .list (l.map runD)
/-- the letters from the top, one by one -/
def L (x y : Nat) : List Bool :=
  if h : 0 < x ∧ 0 < y ∧ x ≠ y then
    if x > y then true :: L (x - y) y else false :: L x (y - x)
  else []
termination_by x + y
theorem L_nil {x y : Nat} (h : ¬ (0 < x ∧ 0 < y ∧ x ≠ y)) : L x y = [] := by rw [L, dif_neg h]
theorem L_x {x y : Nat} (h : 0 < y) (h2 : x > y) : L x y = true :: L (x - y) y := by rw [L, dif_pos ⟨by omega, h, by omega⟩, if_pos h2]
theorem L_y {x y : Nat} (h : 0 < x) (h2 : y > x) : L x y = false :: L x (y - x) := by rw [L, dif_pos ⟨h, by omega, by omega⟩, if_neg (by omega)]
theorem L_xs {y : Nat} (h : 0 < y) : ∀ (k x : Nat), k * y < x → L x y = List.replicate k true ++ L (x - k * y) y
  | 0, x, _ => by simp
  | k + 1, x, h2 => by
    have e : (k + 1) * y = k * y + y := Nat.succ_mul k y
    rw [e] at h2
    rw [L_x h (by omega), L_xs h k (x - y) (by omega), List.replicate_succ, List.cons_append, show x - y - k * y = x - (k + 1) * y by omega]
theorem L_ys {x : Nat} (h : 0 < x) : ∀ (k y : Nat), k * x < y → L x y = List.replicate k false ++ L x (y - k * x)
  | 0, y, _ => by simp
  | k + 1, y, h2 => by
    have e : (k + 1) * x = k * x + x := Nat.succ_mul k x
    rw [e] at h2
    rw [L_y h (by omega), L_ys h k (y - x) (by omega), List.replicate_succ, List.cons_append, show y - x - k * x = y - (k + 1) * x by omega]
def spell (l : List (Bool × Nat)) : List Bool := l.flatMap fun r => List.replicate r.2 r.1
theorem spell_R (x y : Nat) : spell (R x y) = L x y := by
  by_cases h : 0 < x ∧ 0 < y ∧ x ≠ y
  · by_cases h2 : x > y
    · have d := dm_lt h.2.1 h2
      rw [R_x h.2.1 h2]
      show List.replicate _ true ++ spell (R _ y) = _
      rw [spell_R (x - (x - 1) / y * y) y, ← L_xs h.2.1 ((x - 1) / y) x (by omega)]
    · have d := dm_lt h.1 (show y > x by omega)
      rw [R_y h.1 (by omega)]
      show List.replicate _ false ++ spell (R x _) = _
      rw [spell_R x (y - (y - 1) / x * x), ← L_ys h.1 ((y - 1) / x) y (by omega)]
  · rw [R_nil h, L_nil h]
    rfl
termination_by x + y
theorem spell_len : ∀ l : List (Bool × Nat), (spell l).length = (l.map (·.2)).sum
  | [] => rfl
  | r :: l => by
    show (List.replicate r.2 r.1 ++ spell l).length = _
    rw [List.length_append, List.length_replicate, spell_len l, List.map_cons, List.sum_cons]
theorem L_le (x y : Nat) : (L x y).length ≤ x + y := by
  by_cases h : 0 < x ∧ 0 < y ∧ x ≠ y
  · by_cases h2 : x > y
    · rw [L_x h.2.1 h2, List.length_cons]
      have := L_le (x - y) y
      omega
    · rw [L_y h.1 (by omega), List.length_cons]
      have := L_le x (y - x)
      omega
  · rw [L_nil h]
    exact Nat.zero_le _
termination_by x + y
/-- runs halve the numbers: there are few -/
theorem R_len (n : Nat) : ∀ (x y : Nat), x * y < 2 ^ n → (R x y).length ≤ n := by
  induction n with
  | zero =>
    intro x y h
    have z : ¬ (0 < x ∧ 0 < y ∧ x ≠ y) := fun ⟨h1, h2, _⟩ => by
      have := Nat.mul_pos h1 h2
      omega
    rw [R_nil z]
    exact Nat.le_refl _
  | succ n ih =>
    intro x y h
    by_cases c : 0 < x ∧ 0 < y ∧ x ≠ y
    · by_cases c2 : x > y
      · rw [R_x c.2.1 c2, List.length_cons]
        have d := dm_lt c.2.1 c2
        have e : (x - 1) / y * y + (x - 1) % y = x - 1 := by rw [Nat.mul_comm]; exact Nat.div_add_mod _ _
        have m : (x - 1) % y < y := Nat.mod_lt _ c.2.1
        have p : 0 < (x - 1) / y := Nat.div_pos (by omega) c.2.1
        have p2 : y ≤ (x - 1) / y * y := Nat.le_mul_of_pos_left _ p
        have half : 2 * (x - (x - 1) / y * y) ≤ x := by omega
        have q : 2 * ((x - (x - 1) / y * y) * y) ≤ x * y := by
          rw [← Nat.mul_assoc]
          exact Nat.mul_le_mul_right _ half
        have := ih (x - (x - 1) / y * y) y (by rw [Nat.pow_succ] at h; omega)
        omega
      · have c3 : y > x := by omega
        rw [R_y c.1 c3, List.length_cons]
        have d := dm_lt c.1 c3
        have e : (y - 1) / x * x + (y - 1) % x = y - 1 := by rw [Nat.mul_comm]; exact Nat.div_add_mod _ _
        have m : (y - 1) % x < x := Nat.mod_lt _ c.1
        have p : 0 < (y - 1) / x := Nat.div_pos (by omega) c.1
        have p2 : x ≤ (y - 1) / x * x := Nat.le_mul_of_pos_left _ p
        have half : 2 * (y - (y - 1) / x * x) ≤ y := by omega
        have q : 2 * (x * (y - (y - 1) / x * x)) ≤ x * y := by
          rw [show 2 * (x * (y - (y - 1) / x * x)) = x * (2 * (y - (y - 1) / x * x)) by rw [← Nat.mul_assoc, ← Nat.mul_assoc, Nat.mul_comm 2 x]]
          exact Nat.mul_le_mul_left _ half
        have := ih x (y - (y - 1) / x * x) (by rw [Nat.pow_succ] at h; omega)
        omega
    · rw [R_nil c]
      exact Nat.zero_le _
theorem R_len' {x y : Nat} (h : okP x y) : (R x y).length ≤ 8000 := by
  refine R_len 8000 x y ?_
  by_cases hy : 0 < y
  · have e : (2 : Nat) ^ 8000 = 2 ^ 4000 * 2 ^ 4000 := (Nat.pow_add 2 4000 4000)
    rw [e]
    exact Nat.mul_lt_mul'' h.2.1 h.2.2
  · have : y = 0 := by omega
    rw [this, Nat.mul_zero]
    exact Nat.pow_pos (by decide)
end Bx
namespace Bx
open PySem PySem.Spec PyProof.Rows L2
theorem noL_runD (r : Bool × Nat) : noL (runD r) = true := rfl
theorem PairAt.sameT {K : PySem.W.Frag} {H H' : Hp} {v : V} {x y : Nat} (h : PairAt K H v x y) (e : SameT H H') : PairAt K H' v x y := by
  obtain ⟨a, e1, h⟩ := h
  exact ⟨a, e1, e.seqT h⟩
theorem nat_abs {x n : Nat} (h : x < 2 ^ n) : ((x : Int)).natAbs < 2 ^ n := by rw [Int.natAbs_natCast]; exact h
theorem okDiv {i : Int} {y : Nat} (h0 : 0 < y) (h : y < 2 ^ 4000) : CDivW i (y : Int) := wide_div (by omega) (nat_abs h) (by decide) (by decide)
theorem okMul {x y : Nat} (h : x < 2 ^ 4000) (h2 : y < 2 ^ 4000) : CMulW (x : Int) (y : Int) := wide_mul (nat_abs h) (nat_abs h2) (by decide) (by decide) (by decide)
end Bx
namespace Bx
open PySem PySem.Spec PyProof.Rows L2
theorem sum_casts : ∀ l : List (Bool × Nat), ((l.map fun r => ((r.2 : Nat) : Int)).sum) = (((l.map (·.2)).sum : Nat) : Int)
  | [] => rfl
  | r :: l => by
    rw [List.map_cons, List.sum_cons, List.map_cons, List.sum_cons, sum_casts l, Int.natCast_add]
theorem sumR (x y : Nat) : ((R x y).map fun r => ((r.2 : Nat) : Int)).sum = (((L x y).length : Nat) : Int) := by rw [sum_casts, ← spell_len, spell_R]
theorem okP_small {x y : Nat} (h : ¬ (x = 0 ∧ y = 0)) (hx : x ≤ 1000000) (hy : y ≤ 1000000) : okP x y := by
  have e : 1000000 < 2 ^ 4000 := Nat.lt_of_lt_of_le (by decide : 1000000 < 2 ^ 20) (Nat.pow_le_pow_right (by decide) (by decide))
  exact ⟨h, Nat.lt_of_le_of_lt hx e, Nat.lt_of_le_of_lt hy e⟩
/-- a run of a list of runs -/
theorem run_get {K : PySem.W.Frag} {H : Hp} {us : List V} {l : List (Bool × Nat)} {i : Nat} {u : V} (g : DpAll K H us (l.map runD)) (hu : us[i]? = some u) :
    ∃ (c : Bool) (n : Nat) (p : Addr), l[i]? = some (c, n) ∧ u = .ref p ∧ SqT K H p [.str (letS c), .int (n : Int)] := by
  obtain ⟨d, hd, du⟩ := DpAll.get g hu
  obtain ⟨⟨c, n⟩, hr, rfl⟩ : ∃ r, l[i]? = some r ∧ runD r = d := by
    rw [List.getElem?_map] at hd
    cases q : l[i]? with
    | none => rw [q] at hd; cases hd
    | some r => rw [q] at hd; exact ⟨r, rfl, Option.some.inj hd⟩
  obtain ⟨p, a1, a2, rfl, hp, e1, e3⟩ := Dp.pair du
  cases Dp.str' e1
  cases Dp.int' e3
  exact ⟨c, n, p, hr, rfl, hp⟩
end Bx
namespace Bx
open PySem PySem.Spec PyProof.Rows L2
theorem runsD_depth (l : List (Bool × Nat)) : (runsD l).depth ≤ 2 := by
  show PyData.depthAll (l.map runD) + 1 ≤ 2
  have := depthAll_map (f := runD) (n := 1) (fun _ => Nat.le_refl _) l
  omega
theorem runsD_small {x y : Nat} (h : okP x y) : smallD (runsD (R x y)) = true := by
  refine smallL ?_ (smallDs_map (fun _ => rfl) _)
  have := R_len' h
  rw [List.length_map]
  omega
theorem Dp_runs {K : PySem.W.Frag} {H : Hp} {f : Addr} {us : List V} {l : List (Bool × Nat)} (h : SqL K H f us) (g : DpAll K H us (l.map runD)) : Dp K H (.ref f) (runsD l) := .lst h g
theorem letS_inj {a b : Bool} (h : a ≠ b) : decide (V.str (letS a) = V.str (letS b)) = false := by
  cases a <;> cases b
  · exact absurd rfl h
  · decide +kernel
  · decide +kernel
  · exact absurd rfl h
end Bx
namespace Bx
open PySem PySem.Spec PyProof.Rows L2
theorem beq_letS (a b : Bool) : (letS a == letS b) = (a == b) := by
  cases a <;> cases b <;> decide +kernel
theorem eqv_runD (x y : Bool × Nat) : PyData.eqv (runD x) (runD y) = decide (x = y) := by
  unfold runD
  simp only [PyData.eqv, PyData.eqvAll, beq_letS, Bool.and_true]
  rw [Bool.eq_iff_iff]
  simp [Prod.ext_iff]
  intro _
  omega
theorem canLay_runD (x : Bool × Nat) : (runD x).canLay0 = true := by
  obtain ⟨c, n⟩ := x
  cases c
  · show (PyData.canLay0 (.str "Y") && (true && true)) = true
    decide +kernel
  · show (PyData.canLay0 (.str "X") && (true && true)) = true
    decide +kernel
theorem canLay_map {α : Type} {f : α → PyData} (h : ∀ x, (f x).canLay0 = true) : ∀ l : List α, PyData.canLayAll0 (l.map f) = true
  | [] => by simp [PyData.canLayAll0]
  | x :: l => by
    rw [List.map_cons, PyData.canLayAll0, h x, canLay_map h l]
    rfl
theorem shaped_runD (x : Bool × Nat) : SeqAt.shaped (runD x) = true := by
  unfold SeqAt.shaped
  rw [canLay_runD]
  rfl
theorem shaped_runs (l : List (Bool × Nat)) : SeqAt.shaped (runsD l) = true := by
  unfold SeqAt.shaped
  have h : (runsD l).canLay0 = true := by
    show (PyData.list _).canLay0 = true
    rw [PyData.canLay0]
    exact canLay_map canLay_runD l
  have d := runsD_depth l
  rw [h, decide_eq_true (by omega)]
  rfl
theorem eqv_nil (l : List (Bool × Nat)) : PyData.eqv (runsD l) (.list []) = decide (l = []) := by
  cases l with
  | nil => rfl
  | cons a l => rfl
end Bx
-- needs pairs
namespace Bx
open PySem PySem.Spec PyProof.Rows L2
def bot (x y : Nat) : Str := if y = 0 then "flat" else if x = 0 then "steep" else "even"
end Bx
-- needs lists deep pairs bottoms
/-! a table: modulus, flats, steeps, starts, rows -/
namespace Bx
open PySem PySem.Spec PyProof.Rows L2
structure Tb where
  m : Nat
  flats : List Bool
  steeps : List Bool
  starts : List Nat
  rows : List (Nat × Nat × Bool)
def boolsD (l : List Bool) : PyData := .tuple (l.map .bool)
def natsD (l : List Nat) : PyData := .tuple (l.map fun n : Nat => PyData.int (n : Int))
def rowD (r : Nat × Nat × Bool) : PyData := .tuple [.int (r.1 : Int), .int (r.2.1 : Int), .bool r.2.2]
def rowsD (l : List (Nat × Nat × Bool)) : PyData := .tuple (l.map rowD)
def tabD (t : Tb) : PyData := .tuple [.int (t.m : Int), boolsD t.flats, boolsD t.steeps, natsD t.starts, rowsD t.rows]
structure Tok (t : Tb) : Prop where
  md : t.m = 1 ∨ t.m = 2 ∨ t.m = 3 ∨ t.m = 6
  fl : t.flats.length = t.m
  sl : t.steeps.length = t.m
  tl : t.starts.length = t.m
  r0 : 0 < t.rows.length
  r1 : t.rows.length ≤ 1000
  st : ∀ s ∈ t.starts, s < t.rows.length
  rw1 : ∀ r ∈ t.rows, r.1 < t.rows.length
  rw2 : ∀ r ∈ t.rows, r.2.1 < t.rows.length
theorem Tok.m0 {t : Tb} (h : Tok t) : 0 < t.m ∧ t.m ≤ 6 := by
  rcases h.md with e | e | e | e <;> rw [e] <;> decide
theorem Dp.tup' {K : PySem.W.Frag} {H : Hp} {v : V} {ds : List PyData} (h : Dp K H v (.tuple ds)) : ∃ a xs, v = .ref a ∧ SqT K H a xs ∧ DpAll K H xs ds := by
  cases h with
  | tup h1 h2 => exact ⟨_, _, rfl, h1, h2⟩
theorem Dp.bools {K : PySem.W.Frag} {H : Hp} {v : V} {l : List Bool} (h : Dp K H v (boolsD l)) : ∃ a, v = .ref a ∧ SqT K H a (l.map V.bl) := by
  obtain ⟨a, xs, rfl, h1, h2⟩ := Dp.tup' h
  have e : xs = l.map V.bl := by
    clear h h1
    induction l generalizing xs with
    | nil => cases h2; rfl
    | cons b l ih =>
      cases h2 with
      | cons h3 h4 =>
        rw [Dp.bl' h3, ih _ h4]
        rfl
  subst e
  exact ⟨a, rfl, h1⟩
theorem Dp.nats {K : PySem.W.Frag} {H : Hp} {v : V} {l : List Nat} (h : Dp K H v (natsD l)) : ∃ a, v = .ref a ∧ SqT K H a (l.map fun n : Nat => V.int (n : Int)) := by
  obtain ⟨a, xs, rfl, h1, h2⟩ := Dp.tup' h
  have e : xs = l.map fun n : Nat => V.int (n : Int) := by
    clear h h1
    induction l generalizing xs with
    | nil => cases h2; rfl
    | cons b l ih =>
      cases h2 with
      | cons h3 h4 =>
        rw [Dp.int' h3, ih _ h4]
        rfl
  subst e
  exact ⟨a, rfl, h1⟩
theorem Dp.row {K : PySem.W.Frag} {H : Hp} {v : V} {r : Nat × Nat × Bool} (h : Dp K H v (rowD r)) : ∃ a, v = .ref a ∧ SqT K H a [.int (r.1 : Int), .int (r.2.1 : Int), .bl r.2.2] := by
  obtain ⟨a, xs, rfl, h1, h2⟩ := Dp.tup' h
  cases h2 with
  | cons h3 h4 =>
    cases h4 with
    | cons h5 h6 =>
      cases h6 with
      | cons h7 h8 =>
        cases h8
        cases Dp.int' h3
        cases Dp.int' h5
        cases Dp.bl' h7
        exact ⟨a, rfl, h1⟩
theorem Dp.rows {K : PySem.W.Frag} {H : Hp} {v : V} {l : List (Nat × Nat × Bool)} (h : Dp K H v (rowsD l)) : ∃ a us, v = .ref a ∧ SqT K H a us ∧ us.length = l.length ∧ ∀ (i : Nat) (r : Nat × Nat × Bool), l[i]? = some r → ∃ p, us[i]? = some (.ref p) ∧ SqT K H p [.int (r.1 : Int), .int (r.2.1 : Int), .bl r.2.2] := by
  obtain ⟨a, us, rfl, h1, h2⟩ := Dp.tup' h
  have hl := DpAll.length h2
  rw [List.length_map] at hl
  refine ⟨a, us, rfl, h1, hl, fun i r hr => ?_⟩
  have hi : i < us.length := by rw [hl]; exact (List.getElem?_eq_some_iff.mp hr).1
  obtain ⟨d, hd, dz⟩ := DpAll.get h2 (List.getElem?_eq_getElem hi)
  rw [List.getElem?_map, hr] at hd
  cases hd
  obtain ⟨p, e, hp⟩ := Dp.row dz
  exact ⟨p, by rw [List.getElem?_eq_getElem hi, e], hp⟩
/-- the parts of a table that stands in the heap -/
structure TabAt (K : PySem.W.Frag) (H : Hp) (a : Addr) (t : Tb) (f s b r : V) : Prop where
  sq : SqT K H a [.int (t.m : Int), f, s, b, r]
  fd : Dp K H f (boolsD t.flats)
  sd : Dp K H s (boolsD t.steeps)
  bd : Dp K H b (natsD t.starts)
  rd : Dp K H r (rowsD t.rows)
theorem Dp.tab {K : PySem.W.Frag} {H : Hp} {v : V} {t : Tb} (h : Dp K H v (tabD t)) : ∃ a f s b r, v = .ref a ∧ TabAt K H a t f s b r := by
  obtain ⟨a, xs, rfl, h1, h2⟩ := Dp.tup' h
  cases h2 with
  | cons g1 h2 =>
    cases h2 with
    | cons g2 h2 =>
      cases h2 with
      | cons g3 h2 =>
        cases h2 with
        | cons g4 h2 =>
          cases h2 with
          | cons g5 h2 =>
            cases h2
            cases Dp.int' g1
            exact ⟨a, _, _, _, _, rfl, h1, g2, g3, g4, g5⟩
theorem TabAt.dp {K : PySem.W.Frag} {H : Hp} {a : Addr} {t : Tb} {f s b r : V} (h : TabAt K H a t f s b r) : Dp K H (.ref a) (tabD t) := .tup h.sq (.cons (.int _) (.cons h.fd (.cons h.sd (.cons h.bd (.cons h.rd .nil)))))
theorem noL_bools (l : List Bool) : noL (boolsD l) = true := by
  unfold boolsD
  rw [noL]
  exact noLs_map (f := PyData.bool) (fun _ => rfl) l
theorem noL_nats (l : List Nat) : noL (natsD l) = true := by
  unfold natsD
  rw [noL]
  exact noLs_map (f := fun n : Nat => PyData.int (n : Int)) (fun _ => rfl) l
theorem noL_rows (l : List (Nat × Nat × Bool)) : noL (rowsD l) = true := by
  unfold rowsD
  rw [noL]
  exact noLs_map (f := rowD) (fun _ => rfl) l
theorem noL_tab (t : Tb) : noL (tabD t) = true := by
  unfold tabD
  rw [noL, noLs, noLs, noLs, noLs, noLs, noL_bools, noL_bools, noL_nats, noL_rows]
  rfl
/-! what a table tells -/
def goT (t : Tb) (s : Nat) (l : Bool) : Nat := match t.rows[s]? with
  | some r => if l then r.1 else r.2.1
  | none => 0
def goodT (t : Tb) (s : Nat) : Bool := match t.rows[s]? with
  | some r => r.2.2
  | none => false
theorem goT_lt {t : Tb} (h : Tok t) {s : Nat} (hs : s < t.rows.length) (l : Bool) : goT t s l < t.rows.length := by
  unfold goT
  rw [List.getElem?_eq_getElem hs]
  dsimp only
  have hm := List.getElem_mem hs
  split
  · exact h.rw1 _ hm
  · exact h.rw2 _ hm
/-- the spot behind many letters -/
def goN (t : Tb) (l : Bool) : Nat → Nat → Nat
  | 0, s => s
  | n + 1, s => goN t l n (goT t s l)
def begT (t : Tb) (g : Nat) : Nat := (t.starts[g % t.m]?).getD 0
/-- is the pair in the set -/
def hasT (t : Tb) (x y : Nat) : Bool :=
  if y = 0 then (t.flats[Nat.gcd x y % t.m]?).getD false
  else if x = 0 then (t.steeps[Nat.gcd x y % t.m]?).getD false
  else goodT t (((R x y).reverse).foldl (fun s r => goN t r.1 r.2 s) (begT t (Nat.gcd x y)))
end Bx
-- needs clsrules
-- imports HandS.ClsMeth HandS.HeadHook2
/-! C.f, a number that stands in the class -/
namespace Bx
open PySem PySem.Spec PyProof.Rows L2
def cintB (K : PySem.W.Frag) (C : Addr) (f : Str) (n : Int) : Bool := match PySem.W.findCls K (.ref C) (.type "type") f with
  | some (.val (.int i _)) => decide (i = n)
  | _ => false
theorem cintB_ok {K : PySem.W.Frag} {C : Addr} {f : Str} {n : Int} (h : cintB K C f n = true) : ∃ t, ClX.CVal K C (.type "type") f (.int n) (.int n t) := by
  unfold cintB at h
  split at h
  · rename_i i t e
    obtain rfl := of_decide_eq_true h
    exact ⟨t, e, t, rfl⟩
  · cases h
end Bx
-- needs lists
namespace Bx
open PySem PySem.Spec PyProof.Rows L2
section
variable {κ : Type} [DecidableEq κ]
/-- the keys as they are met first -/
def fstep (acc : List κ) (k : κ) : List κ := if k ∈ acc then acc else acc ++ [k]
def firsts (ks : List κ) : List κ := ks.foldl fstep []
/-- the place of a key -/
def idxK (l : List κ) (k : κ) : Nat := l.idxOf k
/-- each key by the turn of its first place -/
def numb (ks : List κ) : List Nat := ks.map fun k => idxK (firsts ks) k
theorem firsts_take {ks : List κ} {i : Nat} {k : κ} (h : ks[i]? = some k) : firsts (ks.take (i + 1)) = fstep (firsts (ks.take i)) k := by
  unfold firsts
  rw [List.take_add_one, h, Option.toList_some, List.foldl_append]
  rfl
theorem numb_mem (x : κ) : ∀ (ks acc : List κ), x ∈ acc → x ∈ ks.foldl fstep acc
  | [], _, h => h
  | k :: ks, acc, h => by
    refine numb_mem x ks _ ?_
    unfold fstep
    split
    · exact h
    · exact List.mem_append_left _ h
theorem numb_has (x : κ) : ∀ (ks acc : List κ), x ∈ ks → x ∈ ks.foldl fstep acc
  | k :: ks, acc, h => by
    rcases List.mem_cons.mp h with e | e
    · refine numb_mem x ks _ ?_
      unfold fstep
      rw [← e]
      split
      · assumption
      · exact List.mem_append_right _ (List.mem_singleton.mpr rfl)
    · exact numb_has x ks _ e
theorem firsts_mem {ks : List κ} {k : κ} (h : k ∈ ks) : k ∈ firsts ks := numb_has k ks [] h
theorem numb_len (ks : List κ) : ∀ acc : List κ, (ks.foldl fstep acc).length ≤ acc.length + ks.length := by
  induction ks with
  | nil => exact fun acc => Nat.le_refl _
  | cons k ks ih =>
    intro acc
    have h := ih (fstep acc k)
    have h2 : (fstep acc k).length ≤ acc.length + 1 := by
      unfold fstep
      split
      · omega
      · rw [List.length_append]; exact Nat.le_refl _
    rw [List.foldl_cons, List.length_cons]
    omega
/-- what the dict tells behind some keys -/
structure Told (kvs : List (κ × V)) (acc : List κ) : Prop where
  len : kvs.length = acc.length
  val : ∀ k, valV kvs k = if k ∈ acc then some (.int ((idxK acc k : Nat) : Int)) else none
theorem Told.nil : Told ([] : List (κ × V)) [] := ⟨rfl, fun k => by rw [if_neg (List.not_mem_nil)]; rfl⟩
theorem Told.push {kvs : List (κ × V)} {acc : List κ} {k : κ} (h : Told kvs acc) (hk : k ∉ acc) : Told (putK kvs k (.int ((kvs.length : Nat) : Int))) (acc ++ [k]) := by
  have e : valV kvs k = none := by rw [h.val, if_neg hk]
  refine ⟨?_, fun j => ?_⟩
  · rw [putK_new _ e, List.length_append, List.length_append, h.len]
    rfl
  · rw [valV_put, h.val]
    unfold idxK
    by_cases c : j = k
    · subst c
      rw [if_pos rfl, if_pos (List.mem_append_right _ (List.mem_singleton.mpr rfl)), List.idxOf_append, if_neg hk, h.len]
      have : List.idxOf j [j] = 0 := by simp
      rw [this, Nat.zero_add]
    · rw [if_neg c]
      by_cases m : j ∈ acc
      · rw [if_pos m, if_pos (List.mem_append_left _ m), List.idxOf_append, if_pos m]
      · rw [if_neg m, if_neg (fun z => by rcases List.mem_append.mp z with z | z; exact m z; exact c (List.mem_singleton.mp z))]
end
end Bx
-- needs numb
/-! numbering by first places: it depends on the pattern alone; finer patterns have more first places -/
namespace Bx
open PySem PySem.Spec PyProof.Rows L2
section
variable {κ : Type} [DecidableEq κ] {ι : Type} [DecidableEq ι]
def isFirst (g : Nat → κ) (n : Nat) : Bool := (List.range n).all fun p => decide (g p ≠ g n)
def fpos (g : Nat → κ) (N : Nat) : List Nat := (List.range N).filter (isFirst g)
theorem isFirst_iff {g : Nat → κ} {n : Nat} : isFirst g n = true ↔ ∀ p, p < n → g p ≠ g n := by
  unfold isFirst
  rw [List.all_eq_true]
  exact ⟨fun h p hp => of_decide_eq_true (h p (List.mem_range.mpr hp)), fun h p hp => decide_eq_true (h p (List.mem_range.mp hp))⟩
/-- each place has a first place of its kind -/
theorem first_of (g : Nat → κ) : ∀ n, ∃ p, p ≤ n ∧ g p = g n ∧ isFirst g p = true := by
  intro n
  induction n using Nat.strongRecOn with
  | ind n ih =>
    by_cases h : isFirst g n = true
    · exact ⟨n, Nat.le_refl n, rfl, h⟩
    · have : ∃ p, p < n ∧ g p = g n := by
        apply Classical.byContradiction
        intro z
        exact h (isFirst_iff.mpr fun p hp e => z ⟨p, hp, e⟩)
      obtain ⟨p, hp, e⟩ := this
      obtain ⟨q, h1, h2, h3⟩ := ih p hp
      exact ⟨q, by omega, h2.trans e, h3⟩
theorem first_uniq {g : Nat → κ} {p q : Nat} (hp : isFirst g p = true) (hq : isFirst g q = true) (e : g p = g q) : p = q := by
  rcases Nat.lt_trichotomy p q with h | h | h
  · exact absurd e (isFirst_iff.mp hq p h)
  · exact h
  · exact absurd e.symm (isFirst_iff.mp hp q h)
theorem firsts_snoc (ks : List κ) (k : κ) : firsts (ks ++ [k]) = fstep (firsts ks) k := by
  unfold firsts
  rw [List.foldl_append]
  rfl
theorem firsts_fpos (g : Nat → κ) : ∀ N, firsts ((List.range N).map g) = (fpos g N).map g
  | 0 => rfl
  | N + 1 => by
    have ih := firsts_fpos g N
    rw [List.range_succ, List.map_append, List.map_cons, List.map_nil, firsts_snoc, ih]
    unfold fpos
    rw [List.range_succ, List.filter_append]
    unfold fstep
    by_cases h : isFirst g N = true
    · rw [if_neg, List.filter_cons_of_pos h, List.map_append]
      · rfl
      · intro z
        obtain ⟨p, hp, e⟩ := List.mem_map.mp z
        have hp := (List.mem_filter.mp hp).1
        exact isFirst_iff.mp h p (List.mem_range.mp hp) e
    · rw [if_pos, List.filter_cons_of_neg h]
      · rw [List.filter_nil, List.append_nil]
      · obtain ⟨p, h1, h2, h3⟩ := first_of g N
        have hne : p ≠ N := fun z => h (z ▸ h3)
        exact List.mem_map.mpr ⟨p, List.mem_filter.mpr ⟨List.mem_range.mpr (by omega), h3⟩, h2⟩
/-- the number of a place -/
def pat (g : Nat → κ) (N i : Nat) : Nat := idxK ((fpos g N).map g) (g i)
theorem numb_pat (g : Nat → κ) (N : Nat) : numb ((List.range N).map g) = (List.range N).map (pat g N) := by
  unfold numb
  rw [List.map_map, firsts_fpos]
  rfl
theorem isFirst_congr {g : Nat → κ} {g' : Nat → ι} {N : Nat} (h : ∀ i j, i < N → j < N → (g i = g j ↔ g' i = g' j)) {n : Nat} (hn : n < N) : isFirst g n = isFirst g' n := by
  rw [Bool.eq_iff_iff, isFirst_iff, isFirst_iff]
  exact ⟨fun z p hp e => z p hp ((h p n (by omega) hn).mpr e), fun z p hp e => z p hp ((h p n (by omega) hn).mp e)⟩
theorem fpos_congr {g : Nat → κ} {g' : Nat → ι} {N : Nat} (h : ∀ i j, i < N → j < N → (g i = g j ↔ g' i = g' j)) : fpos g N = fpos g' N := by
  unfold fpos
  exact List.filter_congr fun n hn => isFirst_congr h (List.mem_range.mp hn)
theorem idx_congr {g : Nat → κ} {g' : Nat → ι} {i : Nat} : ∀ (l : List Nat), (∀ p ∈ l, (g p = g i ↔ g' p = g' i)) → idxK (l.map g) (g i) = idxK (l.map g') (g' i)
  | [], _ => rfl
  | p :: l, h => by
    have ih := idx_congr l fun q hq => h q (List.mem_cons_of_mem _ hq)
    unfold idxK at ih ⊢
    rw [List.map_cons, List.map_cons, List.idxOf_cons, List.idxOf_cons, ih]
    have hp := h p List.mem_cons_self
    by_cases c : g p = g i
    · rw [beq_iff_eq.mpr c, beq_iff_eq.mpr (hp.mp c)]
    · rw [beq_eq_false_iff_ne.mpr c, beq_eq_false_iff_ne.mpr fun z => c (hp.mpr z)]
theorem pat_congr {g : Nat → κ} {g' : Nat → ι} {N i : Nat} (h : ∀ i j, i < N → j < N → (g i = g j ↔ g' i = g' j)) (hi : i < N) : pat g N i = pat g' N i := by
  unfold pat
  rw [← fpos_congr h]
  exact idx_congr _ fun p hp => h p i (List.mem_range.mp (List.mem_filter.mp hp).1) hi
theorem pat_mem {g : Nat → κ} {N i : Nat} (hi : i < N) : g i ∈ (fpos g N).map g := by
  obtain ⟨p, h1, h2, h3⟩ := first_of g i
  exact List.mem_map.mpr ⟨p, List.mem_filter.mpr ⟨List.mem_range.mpr (by omega), h3⟩, h2⟩
theorem pat_lt {g : Nat → κ} {N i : Nat} (hi : i < N) : pat g N i < (fpos g N).length := by
  unfold pat idxK
  have := List.idxOf_lt_length_of_mem (pat_mem (g := g) hi)
  rw [List.length_map] at this
  exact this
theorem pat_eq_iff {g : Nat → κ} {N i j : Nat} (hi : i < N) (hj : j < N) : pat g N i = pat g N j ↔ g i = g j := by
  refine ⟨fun e => ?_, fun e => by unfold pat; rw [e]⟩
  have h1 := List.idxOf_lt_length_of_mem (pat_mem (g := g) hi)
  have h2 := List.idxOf_lt_length_of_mem (pat_mem (g := g) hj)
  have e1 := List.getElem_idxOf h1
  have e2 := List.getElem_idxOf h2
  unfold pat idxK at e
  rw [← e1, ← e2]
  congr 1
theorem pat_pat {g : Nat → κ} {N i : Nat} (hi : i < N) : pat (pat g N) N i = pat g N i := pat_congr (fun _ _ h1 h2 => pat_eq_iff h1 h2) hi
theorem fpos_le (g : Nat → κ) (N : Nat) : (fpos g N).length ≤ N := by
  unfold fpos
  have := List.length_filter_le (isFirst g) (List.range N)
  rw [List.length_range] at this
  exact this
theorem filter_sub {p q : Nat → Bool} : ∀ (l : List Nat), (∀ x ∈ l, p x = true → q x = true) → (l.filter p).length ≤ (l.filter q).length ∧ ((l.filter p).length = (l.filter q).length → ∀ x ∈ l, q x = true → p x = true)
  | [], _ => ⟨Nat.le_refl _, fun _ x hx => by cases hx⟩
  | a :: l, h => by
    have ih := filter_sub l fun x hx => h x (List.mem_cons_of_mem _ hx)
    by_cases hp : p a = true
    · have hq := h a List.mem_cons_self hp
      rw [List.filter_cons_of_pos hp, List.filter_cons_of_pos hq, List.length_cons, List.length_cons]
      refine ⟨Nat.succ_le_succ ih.1, fun e x hx hqx => ?_⟩
      rcases List.mem_cons.mp hx with z | z
      · rw [z]; exact hp
      · exact ih.2 (by omega) x z hqx
    · rw [List.filter_cons_of_neg hp]
      by_cases hq : q a = true
      · rw [List.filter_cons_of_pos hq, List.length_cons]
        exact ⟨by omega, fun e => by omega⟩
      · rw [List.filter_cons_of_neg hq]
        refine ⟨ih.1, fun e x hx hqx => ?_⟩
        rcases List.mem_cons.mp hx with z | z
        · rw [z] at hqx; exact absurd hqx hq
        · exact ih.2 e x z hqx
/-- a finer pattern has more first places, or it is the same -/
theorem finer_more {f : Nat → ι} {F : Nat → κ} {N : Nat} (h : ∀ i j, i < N → j < N → F i = F j → f i = f j) :
    (fpos f N).length ≤ (fpos F N).length ∧ ((fpos f N).length = (fpos F N).length → ∀ i j, i < N → j < N → f i = f j → F i = F j) := by
  have hs : ∀ x ∈ List.range N, isFirst f x = true → isFirst F x = true := fun x hx hf => isFirst_iff.mpr fun p hp e => isFirst_iff.mp hf p hp (h p x (by have := List.mem_range.mp hx; omega) (List.mem_range.mp hx) e)
  have fs := filter_sub (List.range N) hs
  refine ⟨fs.1, fun e i j hi hj hf => ?_⟩
  have back := fs.2 e
  obtain ⟨p, p1, p2, p3⟩ := first_of F i
  obtain ⟨q, q1, q2, q3⟩ := first_of F j
  have hp : isFirst f p = true := back p (List.mem_range.mpr (by omega)) p3
  have hq : isFirst f q = true := back q (List.mem_range.mpr (by omega)) q3
  have ep : f p = f i := h p i (by omega) hi p2
  have eq' : f q = f j := h q j (by omega) hj q2
  have epq : p = q := first_uniq hp hq (by rw [ep, eq', hf])
  rw [← p2, ← q2, epq]
/-- a turn of classes_of: the same, or more classes -/
theorem turn_more {f : Nat → Nat} {F : Nat → κ} {N : Nat} (h : ∀ i j, i < N → j < N → F i = F j → f i = f j) (hf : ∀ i, i < N → pat f N i = f i) (ne : ¬ ∀ i, i < N → pat F N i = f i) :
    (fpos f N).length < (fpos (pat F N) N).length := by
  have m := finer_more h
  have e : fpos (pat F N) N = fpos F N := fpos_congr fun i j hi hj => pat_eq_iff hi hj
  rw [e]
  rcases Nat.lt_or_eq_of_le m.1 with z | z
  · exact z
  · exfalso
    refine ne fun i hi => ?_
    rw [← hf i hi]
    exact pat_congr (fun a b ha hb => ⟨h a b ha hb, m.2 z a b ha hb⟩) hi
end
end Bx
-- needs tables classes
/-! spots that tell the same words apart: the classes of a table -/
namespace Bx
open PySem PySem.Spec PyProof.Rows L2
/-- the spot behind a word -/
def goW (t : Tb) (w : List Bool) (s : Nat) : Nat := w.foldl (fun s b => goT t s b) s
def lang (t : Tb) (i j : Nat) : Prop := ∀ w : List Bool, goodT t (goW t w i) = goodT t (goW t w j)
theorem lang_refl (t : Tb) (i : Nat) : lang t i i := fun _ => rfl
theorem lang_symm {t : Tb} {i j : Nat} (h : lang t i j) : lang t j i := fun w => (h w).symm
theorem lang_trans {t : Tb} {i j k : Nat} (h : lang t i j) (h2 : lang t j k) : lang t i k := fun w => (h w).trans (h2 w)
theorem lang_good {t : Tb} {i j : Nat} (h : lang t i j) : goodT t i = goodT t j := h []
theorem lang_go {t : Tb} {i j : Nat} (h : lang t i j) (b : Bool) : lang t (goT t i b) (goT t j b) := fun w => h (b :: w)
/-- the classes: same class exactly if the same words, numbered as they are met -/
structure Cls (t : Tb) (f : Nat → Nat) : Prop where
  eq : ∀ i j, i < t.rows.length → j < t.rows.length → (f i = f j ↔ lang t i j)
  pt : ∀ i, i < t.rows.length → pat f t.rows.length i = f i
theorem Cls.lt {t : Tb} {f : Nat → Nat} (h : Cls t f) {i : Nat} (hi : i < t.rows.length) : f i < t.rows.length := by
  have h1 := pat_lt (g := f) hi
  have h2 := fpos_le f t.rows.length
  rw [h.pt i hi] at h1
  omega
theorem Cls.good {t : Tb} {f : Nat → Nat} (h : Cls t f) {i j : Nat} (hi : i < t.rows.length) (hj : j < t.rows.length) (e : f i = f j) : goodT t i = goodT t j := lang_good ((h.eq i j hi hj).mp e)
theorem Cls.go {t : Tb} {f : Nat → Nat} (h : Cls t f) (ok : Tok t) {i j : Nat} (hi : i < t.rows.length) (hj : j < t.rows.length) (e : f i = f j) (b : Bool) : f (goT t i b) = f (goT t j b) :=
  (h.eq _ _ (goT_lt ok hi b) (goT_lt ok hj b)).mpr (lang_go ((h.eq i j hi hj).mp e) b)
/-- the key of a row for a finer partition -/
def keyF (t : Tb) (f : Nat → Nat) (i : Nat) : List Key := [.inl ((f i : Nat) : Int), .inl ((f (goT t i true) : Nat) : Int), .inl ((f (goT t i false) : Nat) : Int)]
theorem keyF_iff {t : Tb} {f : Nat → Nat} {i j : Nat} : keyF t f i = keyF t f j ↔ f i = f j ∧ f (goT t i true) = f (goT t j true) ∧ f (goT t i false) = f (goT t j false) := by
  unfold keyF
  constructor
  · intro h
    have h1 := List.cons.inj h
    have h2 := List.cons.inj h1.2
    have h3 := List.cons.inj h2.2
    have a1 := Int.ofNat.inj (Sum.inl.inj h1.1)
    have a2 := Int.ofNat.inj (Sum.inl.inj h2.1)
    have a3 := Int.ofNat.inj (Sum.inl.inj h3.1)
    exact ⟨a1, a2, a3⟩
  · rintro ⟨h1, h2, h3⟩
    rw [h1, h2, h3]
/-- what stands at each turn of classes_of -/
structure Part (t : Tb) (f : Nat → Nat) : Prop where
  lg : ∀ i j, i < t.rows.length → j < t.rows.length → lang t i j → f i = f j
  gd : ∀ i j, i < t.rows.length → j < t.rows.length → f i = f j → goodT t i = goodT t j
  pt : ∀ i, i < t.rows.length → pat f t.rows.length i = f i
theorem Part.start (t : Tb) : Part t (pat (goodT t) t.rows.length) where
  lg := fun i j hi hj h => (pat_eq_iff hi hj).mpr (lang_good h)
  gd := fun i j hi hj h => (pat_eq_iff hi hj).mp h
  pt := fun i hi => pat_pat hi
theorem Part.next {t : Tb} {f : Nat → Nat} (ok : Tok t) (h : Part t f) : Part t (pat (keyF t f) t.rows.length) where
  lg := fun i j hi hj l => (pat_eq_iff hi hj).mpr (keyF_iff.mpr ⟨h.lg i j hi hj l, h.lg _ _ (goT_lt ok hi _) (goT_lt ok hj _) (lang_go l _), h.lg _ _ (goT_lt ok hi _) (goT_lt ok hj _) (lang_go l _)⟩)
  gd := fun i j hi hj e => h.gd i j hi hj (keyF_iff.mp ((pat_eq_iff hi hj).mp e)).1
  pt := fun i hi => pat_pat hi
theorem Part.more {t : Tb} {f : Nat → Nat} (h : Part t f) (ne : ¬ ∀ i, i < t.rows.length → pat (keyF t f) t.rows.length i = f i) :
    (fpos f t.rows.length).length < (fpos (pat (keyF t f) t.rows.length) t.rows.length).length :=
  turn_more (fun _ _ _ _ e => (keyF_iff.mp e).1) h.pt ne
theorem Part.done {t : Tb} {f : Nat → Nat} (ok : Tok t) (h : Part t f) (e : ∀ i, i < t.rows.length → pat (keyF t f) t.rows.length i = f i) : Cls t f := by
  refine ⟨fun i j hi hj => ⟨fun c w => ?_, h.lg i j hi hj⟩, h.pt⟩
  have st : ∀ i j, i < t.rows.length → j < t.rows.length → f i = f j → ∀ b, f (goT t i b) = f (goT t j b) := fun i j hi hj c b => by
    have c2 : pat (keyF t f) t.rows.length i = pat (keyF t f) t.rows.length j := by rw [e i hi, e j hj, c]
    have c3 := keyF_iff.mp ((pat_eq_iff hi hj).mp c2)
    cases b
    · exact c3.2.2
    · exact c3.2.1
  revert i j
  induction w with
  | nil => exact fun i j hi hj c => h.gd i j hi hj c
  | cons b w ih => exact fun i j hi hj c => ih (goT t i b) (goT t j b) (goT_lt ok hi b) (goT_lt ok hj b) (st i j hi hj c b)
end Bx
-- needs lists
-- imports HandS.DictComp HandS.Walk HandS.Conv
/-! dict comprehensions over any walk; dicts that tell the place of a number -/
namespace Bx
open PySem PySem.Spec PyProof.Rows L2
theorem dc_it {J : It} {n : Nat} {G : Hp → Prop} {Y : Nat → Hp → V → Hp → Prop} (w : Walk J n G Y) {g : TG} {tt : TT} {tk tv : TE} {vs : List Nat} {σ : L2.St} {H1 : Hp} {D : Addr} {Qd : Hp → Prop} (Pv : Nat → Hp → Prop) (h0 : Pv 0 (upd H1 D (.dK []))) (hG : ∀ i H, i ≤ n → Pv i H → G H)
    (hs : ∀ i x H H', i < n → Pv i H → Y i H x H' → g x (wipe σ vs) H' fun σ2 H2 => wipe σ2 vs = wipe σ vs ∧ tt σ2 H2 fun b H3 =>
      if b = true then tk σ2 H3 fun y H4 => tv σ2 H4 fun z H5 => ∃ kvs k, y = kV k ∧ H5 D = some (.dK kvs) ∧ kvs.length < sizeLine ∧ Pv (i + 1) (upd H5 D (.dK (putK kvs k z))) else Pv (i + 1) H3) (hd : ∀ H, Pv n H → Qd H) :
    ∃ W : Nat → Nat → Hp → Prop, (∃ m, W 0 m (upd H1 D (.dK []))) ∧ ∀ i m H, W i m H →
      (J.stop i H ∧ Qd H) ∨ (J.go i H ∧ ∃ Nx : Hp → Prop, (∀ H', Nx H' → ∃ m', m' < m ∧ W (i + 1) m' H') ∧ ∀ x H', J.yld i H x H' → g x (wipe σ vs) H' fun σ2 H2 => wipe σ2 vs = wipe σ vs ∧ tt σ2 H2 fun b H3 =>
        if b = true then tk σ2 H3 fun y H4 => tv σ2 H4 fun z H5 => ∃ kvs k, y = kV k ∧ H5 D = some (.dK kvs) ∧ kvs.length < sizeLine ∧ Nx (upd H5 D (.dK (putK kvs k z))) else Nx H3) := by
  refine ⟨fun i m H => m = n - i ∧ i ≤ n ∧ Pv i H, ⟨n, by simp, Nat.zero_le _, h0⟩, ?_⟩
  rintro i m H ⟨rfl, hi, p⟩
  have q := hG i H hi p
  by_cases hlt : i < n
  · refine .inr ⟨w.goes i H hlt q, Pv (i + 1), fun H' p' => ⟨n - (i + 1), by omega, rfl, hlt, p'⟩, fun x H' y => hs i x H H' hlt p (w.yields i H x H' hlt q y)⟩
  · have e : i = n := by omega
    subst e
    exact .inl ⟨w.stops H q, hd H p⟩
def ki (n : Nat) : Key := .inl (n : Int)
theorem ki_inj {a b : Nat} : ki a = ki b ↔ a = b := ⟨fun h => Int.ofNat.inj (Sum.inl.inj h), fun h => by rw [h]⟩
end Bx
-- needs prod dcit numb
namespace Bx
open PySem PySem.Spec PyProof.Rows L2
def kp (c : Nat × Nat) : List Key := [ki c.1, ki c.2]
theorem kp_inj {a b : Nat × Nat} : kp a = kp b ↔ a = b := ⟨fun h => by
  have h1 := List.cons.inj h
  have h2 := List.cons.inj h1.2
  exact Prod.ext (ki_inj.mp h1.1) (ki_inj.mp h2.1), fun h => by rw [h]⟩
def pairV (c : Nat × Nat) : List V := [.int (c.1 : Int), .int (c.2 : Int)]
section
variable {κ : Type} [DecidableEq κ] {K : Type} [DecidableEq K]
/-- the dict tells each key's place -/
structure ToldG (kf : κ → K) (kvs : List (K × V)) (acc : List κ) : Prop where
  len : kvs.length = acc.length
  val : ∀ c : κ, valV kvs (kf c) = if c ∈ acc then some (.int ((idxK acc c : Nat) : Int)) else none
theorem ToldG.nil {kf : κ → K} : ToldG kf ([] : List (K × V)) [] := ⟨rfl, fun k => by rw [if_neg (List.not_mem_nil)]; rfl⟩
theorem ToldG.push {kf : κ → K} (inj : ∀ a b, kf a = kf b ↔ a = b) {kvs : List (K × V)} {acc : List κ} {k : κ} (h : ToldG kf kvs acc) (hk : k ∉ acc) : ToldG kf (putK kvs (kf k) (.int ((kvs.length : Nat) : Int))) (acc ++ [k]) := by
  have e : valV kvs (kf k) = none := by rw [h.val, if_neg hk]
  refine ⟨?_, fun j => ?_⟩
  · rw [putK_new _ e, List.length_append, List.length_append, h.len]
    rfl
  · rw [valV_put, h.val]
    unfold idxK
    by_cases c : j = k
    · subst c
      rw [if_pos rfl, if_pos (List.mem_append_right _ (List.mem_singleton.mpr rfl)), List.idxOf_append, if_neg hk, h.len]
      have : List.idxOf j [j] = 0 := by simp
      rw [this, Nat.zero_add]
    · rw [if_neg (fun z => c ((inj _ _).mp z))]
      by_cases m : j ∈ acc
      · rw [if_pos m, if_pos (List.mem_append_left _ m), List.idxOf_append, if_pos m]
      · rw [if_neg m, if_neg (fun z => by rcases List.mem_append.mp z with z | z; exact m z; exact c (List.mem_singleton.mp z))]
end
abbrev ToldP (kvs : List (List Key × V)) (acc : List (Nat × Nat)) : Prop := ToldG kp kvs acc
/-- the tuples stay -/
def TupS (H H' : Hp) : Prop := ∀ p xs, H p = some (.tup xs) → H' p = some (.tup xs)
theorem TupS.refl (H : Hp) : TupS H H := fun _ _ h => h
theorem TupS.trans {H H1 H2 : Hp} (a : TupS H H1) (b : TupS H1 H2) : TupS H H2 := fun p xs h => b p xs (a p xs h)
theorem TupS.of {H H' : Hp} (e : Same H H') : TupS H H' := fun _ _ h => e _ _ h
theorem TupS.put {H : Hp} {a : Addr} {o o' : HO} (h : H a = some o) (n : ∀ xs, o ≠ .tup xs) : TupS H (L2.upd H a o') := fun p xs q => by
  have ne : p ≠ a := fun z => by
    rw [z, h] at q
    exact n _ (Option.some.inj q)
  rw [upd_ne ne]
  exact q
/-- a list of pairs -/
def PairsL (H : Hp) (us : List V) (o : List (Nat × Nat)) : Prop := us.length = o.length ∧ ∀ (j : Nat) c, o[j]? = some c → ∃ p, us[j]? = some (.ref p) ∧ H p = some (.tup (pairV c))
theorem PairsL.keep {H H' : Hp} {us : List V} {o : List (Nat × Nat)} (e : TupS H H') (h : PairsL H us o) : PairsL H' us o := ⟨h.1, fun j c hc => by
  obtain ⟨p, h1, h2⟩ := h.2 j c hc
  exact ⟨p, h1, e _ _ h2⟩⟩
theorem PairsL.snoc {H : Hp} {us : List V} {o : List (Nat × Nat)} {p : Addr} {c : Nat × Nat} (h : PairsL H us o) (hp : H p = some (.tup (pairV c))) : PairsL H (us ++ [.ref p]) (o ++ [c]) := by
  refine ⟨by rw [List.length_append, List.length_append, h.1]; rfl, fun j d hd => ?_⟩
  by_cases hj : j < o.length
  · rw [List.getElem?_append_left hj] at hd
    obtain ⟨q, h1, h2⟩ := h.2 j d hd
    exact ⟨q, by rw [List.getElem?_append_left (by rw [h.1]; exact hj)]; exact h1, h2⟩
  · have hl := (List.getElem?_eq_some_iff.mp hd).1
    rw [List.length_append] at hl
    have e : j = o.length := by
      have : j < o.length + 1 := hl
      omega
    subst e
    rw [List.getElem?_append_right (Nat.le_refl _), Nat.sub_self] at hd
    cases hd
    exact ⟨p, by rw [List.getElem?_append_right (by rw [h.1]; exact Nat.le_refl _), h.1, Nat.sub_self]; rfl, hp⟩
theorem PairsL.get {H : Hp} {us : List V} {o : List (Nat × Nat)} (h : PairsL H us o) {j : Nat} {z : V} (hz : us[j]? = some z) : ∃ c p, o[j]? = some c ∧ z = .ref p ∧ H p = some (.tup (pairV c)) := by
  have hj := (List.getElem?_eq_some_iff.mp hz).1
  rw [h.1] at hj
  obtain ⟨p, h1, h2⟩ := h.2 j _ (List.getElem?_eq_getElem hj)
  rw [hz] at h1
  exact ⟨_, p, List.getElem?_eq_getElem hj, Option.some.inj h1, h2⟩
/-- what stands while the pairs of spots are walked: the list at ol, the dict at d2; B knows neither -/
structure WkP (B : Hp) (ol d2 : Addr) (H' : Hp) (o : List (Nat × Nat)) : Prop where
  sm : Same B H'
  ks : ∃ us, H' ol = some (.lst us) ∧ PairsL H' us o
  nm : ∃ kvs, H' d2 = some (.dT kvs) ∧ ToldP kvs o
section
variable {B H' H2 : Hp} {ol d2 rl : Addr} {o : List (Nat × Nat)}
theorem WkP.grow (h : WkP B ol d2 H' o) (e : Same H' H2) : WkP B ol d2 H2 o := by
  obtain ⟨us, h1, h2⟩ := h.ks
  obtain ⟨kvs, h3, h4⟩ := h.nm
  exact ⟨h.sm.trans e, ⟨us, e _ _ h1, h2.keep (.of e)⟩, kvs, e _ _ h3, h4⟩
theorem WkP.put (h : WkP B ol d2 H' o) (hb : B rl = none) (n1 : rl ≠ ol) (n2 : rl ≠ d2) {ws ws' : List V} (hr : H' rl = some (.lst ws)) : WkP B ol d2 (L2.upd H' rl (.lst ws')) o := by
  obtain ⟨us, h1, h2⟩ := h.ks
  obtain ⟨kvs, h3, h4⟩ := h.nm
  exact ⟨same_mut h.sm hb, ⟨us, by rw [upd_ne n1.symm]; exact h1, h2.keep (.put hr fun _ z => by cases z)⟩, kvs, by rw [upd_ne n2.symm]; exact h3, h4⟩
theorem WkP.push (h : WkP B ol d2 H' o) (b1 : B ol = none) (b2 : B d2 = none) (no : ol ≠ d2) {c : Nat × Nat} (hc : c ∉ o) {us : List V} {kvs : List (List Key × V)} (hO : H' ol = some (.lst us)) (hP : PairsL H' us o) (hD : H' d2 = some (.dT kvs)) (hT : ToldP kvs o) {p : Addr} (hp : H' p = some (.tup (pairV c))) :
    WkP B ol d2 (L2.upd (L2.upd H' d2 (.dT (putK kvs (kp c) (.int ((us.length : Nat) : Int))))) ol (.lst (us ++ [.ref p]))) (fstep o c) ∧ TupS H' (L2.upd (L2.upd H' d2 (.dT (putK kvs (kp c) (.int ((us.length : Nat) : Int))))) ol (.lst (us ++ [.ref p]))) := by
  have t1 : TupS H' (L2.upd H' d2 (.dT (putK kvs (kp c) (.int ((us.length : Nat) : Int))))) := .put hD fun _ z => by cases z
  have hO1 : (L2.upd H' d2 (.dT (putK kvs (kp c) (.int ((us.length : Nat) : Int))))) ol = some (.lst us) := by rw [upd_ne no]; exact hO
  have t2 := t1.trans (.put (o' := .lst (us ++ [.ref p])) hO1 fun _ z => by cases z)
  refine ⟨⟨same_mut (same_mut h.sm b2) b1, ⟨_, upd_same, ?_⟩, putK kvs (kp c) (.int ((us.length : Nat) : Int)), ?_, ?_⟩, t2⟩
  · unfold fstep
    rw [if_neg hc]
    exact (hP.keep t2).snoc (t2 _ _ hp)
  · rw [upd_ne no.symm, upd_same]
  · unfold fstep
    rw [if_neg hc, hP.1, ← hT.len]
    exact hT.push (fun a b => kp_inj) hc
theorem WkP.stay (h : WkP B ol d2 H' o) {c : Nat × Nat} (hc : c ∈ o) : WkP B ol d2 H' (fstep o c) := by
  unfold fstep
  rw [if_pos hc]
  exact h
end
end Bx
-- needs spell bottoms
namespace Bx
open PySem PySem.Spec PyProof.Rows L2
/-- the pair at the bottom of a path -/
def fin (x y : Nat) : Nat × Nat :=
  if h : 0 < x ∧ 0 < y ∧ x ≠ y then
    if x > y then fin (x - (x - 1) / y * y) y else fin x (y - (y - 1) / x * x)
  else (x, y)
termination_by x + y
decreasing_by
  · have := (dm_lt h.2.1 (by assumption)).1
    omega
  · have := (dm_lt h.1 (show y > x by omega)).1
    omega
theorem fin_nil {x y : Nat} (h : ¬ (0 < x ∧ 0 < y ∧ x ≠ y)) : fin x y = (x, y) := by rw [fin, dif_neg h]
theorem fin_x {x y : Nat} (h : 0 < y) (h2 : x > y) : fin x y = fin (x - (x - 1) / y * y) y := by rw [fin, dif_pos ⟨by omega, h, by omega⟩, if_pos h2]
theorem fin_y {x y : Nat} (h : 0 < x) (h2 : y > x) : fin x y = fin x (y - (y - 1) / x * x) := by rw [fin, dif_pos ⟨h, by omega, by omega⟩, if_neg (by omega)]
/-- letters put on, from the bottom up -/
def put1 (p : Nat × Nat) (r : Bool × Nat) : Nat × Nat := if r.1 then (p.1 + r.2 * p.2, p.2) else (p.1, p.2 + r.2 * p.1)
def grow (p : Nat × Nat) (l : List (Bool × Nat)) : Nat × Nat := l.foldl put1 p
theorem grow_app (p : Nat × Nat) (l r : List (Bool × Nat)) : grow p (l ++ r) = grow (grow p l) r := List.foldl_append
theorem grow_R (x y : Nat) : grow (fin x y) (R x y).reverse = (x, y) := by
  by_cases c : 0 < x ∧ 0 < y ∧ x ≠ y
  · by_cases c2 : x > y
    · have d := dm_lt c.2.1 c2
      rw [R_x c.2.1 c2, fin_x c.2.1 c2, List.reverse_cons, grow_app, grow_R _ y]
      show (x - (x - 1) / y * y + (x - 1) / y * y, y) = (x, y)
      rw [Nat.sub_add_cancel (dm_le x y)]
    · have c3 : y > x := by omega
      have d := dm_lt c.1 c3
      rw [R_y c.1 c3, fin_y c.1 c3, List.reverse_cons, grow_app, grow_R x _]
      show (x, y - (y - 1) / x * x + (y - 1) / x * x) = (x, y)
      rw [Nat.sub_add_cancel (dm_le y x)]
  · rw [R_nil c, fin_nil c]
    rfl
termination_by x + y
theorem gcd_dm (x y k : Nat) (h : k * y ≤ x) : Nat.gcd (x - k * y) y = Nat.gcd x y := by
  have e : x = (x - k * y) + k * y := by omega
  conv => rhs; rw [e, Nat.add_comm, Nat.mul_comm, Nat.gcd_comm, Nat.gcd_mul_left_add_right]
  rw [Nat.gcd_comm, Nat.mul_comm k y]
/-- the bottom by the kind and the divisor -/
def base (k : Str) (g : Nat) : Nat × Nat := if k = "flat" then (g, 0) else if k = "steep" then (0, g) else (g, g)
theorem fin_pos {x y : Nat} (hx : 0 < x) (hy : 0 < y) : fin x y = (Nat.gcd x y, Nat.gcd x y) := by
  by_cases c : x ≠ y
  · by_cases c2 : x > y
    · have d := dm_lt hy c2
      rw [fin_x hy c2, fin_pos d.2 hy, gcd_dm x y _ (dm_le x y)]
    · have c3 : y > x := by omega
      have d := dm_lt hx c3
      rw [fin_y hx c3, fin_pos hx d.2, Nat.gcd_comm, gcd_dm y x _ (dm_le y x), Nat.gcd_comm]
  · have e : x = y := by omega
    subst e
    rw [fin_nil (by omega), Nat.gcd_self]
termination_by x + y
theorem fin_base {x y : Nat} (h : ¬ (x = 0 ∧ y = 0)) : fin x y = base (bot x y) (Nat.gcd x y) := by
  unfold bot base
  by_cases hy : y = 0
  · subst hy
    rw [if_pos rfl, if_pos rfl, fin_nil (by omega), Nat.gcd_zero_right]
  · rw [if_neg hy]
    by_cases hx : x = 0
    · subst hx
      rw [if_pos rfl, if_neg (by decide +kernel), if_pos rfl, fin_nil (by omega), Nat.gcd_zero_left]
    · rw [if_neg hx, if_neg (by decide +kernel), if_neg (by decide +kernel), fin_pos (by omega) (by omega)]
theorem R_flat {x y : Nat} (h : bot x y ≠ "even") : R x y = [] := by
  refine R_nil fun c => h ?_
  unfold bot
  rw [if_neg (by omega), if_neg (by omega)]
theorem R_pos' (x y : Nat) : ∀ r ∈ R x y, 0 < r.2 := by
  by_cases c : 0 < x ∧ 0 < y ∧ x ≠ y
  · by_cases c2 : x > y
    · have d := dm_lt c.2.1 c2
      rw [R_x c.2.1 c2]
      intro r hr
      rcases List.mem_cons.mp hr with e | e
      · rw [e]
        exact Nat.div_pos (by omega) c.2.1
      · exact R_pos' _ y r e
    · have c3 : y > x := by omega
      have d := dm_lt c.1 c3
      rw [R_y c.1 c3]
      intro r hr
      rcases List.mem_cons.mp hr with e | e
      · rw [e]
        exact Nat.div_pos (by omega) c.1
      · exact R_pos' x _ r e
  · rw [R_nil c]
    intro r hr
    cases hr
termination_by x + y
/-! ### moves -/
/-- add or take, x or y, how often -/
abbrev Mv := Bool × Bool × Nat
def mvD (m : Mv) : PyData := .tuple [.str (if m.1 then "add" else "take"), .str (if m.2.1 then "x" else "y"), .int (m.2.2 : Int)]
/-- one move, without a negative number, below a bound -/
def go1 (B : Nat) (p : Nat × Nat) (m : Mv) : Option (Nat × Nat) :=
  let q : Option (Nat × Nat) := match m with
    | (true, true, n) => some (p.1 + n * p.2, p.2)
    | (true, false, n) => some (p.1, p.2 + n * p.1)
    | (false, true, n) => if n * p.2 ≤ p.1 then some (p.1 - n * p.2, p.2) else none
    | (false, false, n) => if n * p.1 ≤ p.2 then some (p.1, p.2 - n * p.1) else none
  q.bind fun q => if 0 < m.2.2 ∧ q.1 < B ∧ q.2 < B then some q else none
def leads (B : Nat) : Nat × Nat → List Mv → Option (Nat × Nat)
  | p, [] => some p
  | p, m :: ms => (go1 B p m).bind fun q => leads B q ms
theorem leads_app (B : Nat) : ∀ (p : Nat × Nat) (l r : List Mv), leads B p (l ++ r) = (leads B p l).bind fun q => leads B q r
  | p, [], r => rfl
  | p, m :: l, r => by
    show (go1 B p m).bind (fun q => leads B q (l ++ r)) = ((go1 B p m).bind fun q => leads B q l).bind _
    cases go1 B p m with
    | none => rfl
    | some q => exact leads_app B q l r
def takes (l : List (Bool × Nat)) : List Mv := l.map fun r => (false, r.1, r.2)
def adds (l : List (Bool × Nat)) : List Mv := l.map fun r => (true, r.1, r.2)
theorem put1_le (p : Nat × Nat) (r : Bool × Nat) : p.1 ≤ (put1 p r).1 ∧ p.2 ≤ (put1 p r).2 := by
  unfold put1
  cases r.1
  · exact ⟨Nat.le_refl _, Nat.le_add_right _ _⟩
  · exact ⟨Nat.le_add_right _ _, Nat.le_refl _⟩
theorem grow_le : ∀ (l : List (Bool × Nat)) (p : Nat × Nat), p.1 ≤ (grow p l).1 ∧ p.2 ≤ (grow p l).2
  | [], p => ⟨Nat.le_refl _, Nat.le_refl _⟩
  | r :: l, p => by
    have h1 := put1_le p r
    have h2 := grow_le l (put1 p r)
    exact ⟨Nat.le_trans h1.1 h2.1, Nat.le_trans h1.2 h2.2⟩
theorem leads_adds (B : Nat) : ∀ (l : List (Bool × Nat)) (p : Nat × Nat), (∀ r ∈ l, 0 < r.2) → (grow p l).1 < B → (grow p l).2 < B → leads B p (adds l) = some (grow p l)
  | [], p, _, _, _ => rfl
  | (c, n) :: l, p, h, h1, h2 => by
    have hl := grow_le l (put1 p (c, n))
    have e : go1 B p (true, c, n) = some (put1 p (c, n)) := by
      have hn := h (c, n) List.mem_cons_self
      have b1 : (put1 p (c, n)).1 < B := Nat.lt_of_le_of_lt hl.1 h1
      have b2 : (put1 p (c, n)).2 < B := Nat.lt_of_le_of_lt hl.2 h2
      cases c
      · show (if 0 < n ∧ p.1 < B ∧ p.2 + n * p.1 < B then some (p.1, p.2 + n * p.1) else none) = _
        rw [if_pos ⟨hn, b1, b2⟩]
        rfl
      · show (if 0 < n ∧ p.1 + n * p.2 < B ∧ p.2 < B then some (p.1 + n * p.2, p.2) else none) = _
        rw [if_pos ⟨hn, b1, b2⟩]
        rfl
    show (go1 B p (true, c, n)).bind _ = _
    rw [e, Option.bind_some]
    exact leads_adds B l _ (fun r hr => h r (List.mem_cons_of_mem _ hr)) h1 h2
/-- what was put on is taken off from the top -/
theorem leads_takes (B : Nat) (p : Nat × Nat) : ∀ (l : List (Bool × Nat)), (∀ r ∈ l, 0 < r.2) → (grow p l.reverse).1 < B → (grow p l.reverse).2 < B → leads B (grow p l.reverse) (takes l) = some p
  | [], _, _, _ => rfl
  | (c, n) :: l, h, h1, h2 => by
    rw [List.reverse_cons, grow_app] at h1 h2 ⊢
    have hl := put1_le (grow p l.reverse) (c, n)
    have b1 : (grow p l.reverse).1 < B := Nat.lt_of_le_of_lt hl.1 h1
    have b2 : (grow p l.reverse).2 < B := Nat.lt_of_le_of_lt hl.2 h2
    have hn := h (c, n) List.mem_cons_self
    have e : go1 B (grow (grow p l.reverse) [(c, n)]) (false, c, n) = some (grow p l.reverse) := by
      generalize grow p l.reverse = q at b1 b2
      cases c
      · show (if n * q.1 ≤ q.2 + n * q.1 then some (q.1, q.2 + n * q.1 - n * q.1) else none).bind _ = _
        rw [if_pos (Nat.le_add_left _ _), Nat.add_sub_cancel, Option.bind_some, if_pos ⟨hn, b1, b2⟩]
      · show (if n * q.2 ≤ q.1 + n * q.2 then some (q.1 + n * q.2 - n * q.2, q.2) else none).bind _ = _
        rw [if_pos (Nat.le_add_left _ _), Nat.add_sub_cancel, Option.bind_some, if_pos ⟨hn, b1, b2⟩]
    show (go1 B _ (false, c, n)).bind _ = _
    rw [e, Option.bind_some]
    exact leads_takes B p l (fun r hr => h r (List.mem_cons_of_mem _ hr)) b1 b2
/-! ### without the common beginning -/
def restOf : List (Bool × Nat) → List (Bool × Nat) → List (Bool × Nat) × List (Bool × Nat)
  | a :: l, b :: r =>
    if a = b then restOf l r
    else if a.1 ≠ b.1 then (a :: l, b :: r)
    else ((if a.2 > min a.2 b.2 then [(a.1, a.2 - min a.2 b.2)] else []) ++ l, (if b.2 > min a.2 b.2 then [(a.1, b.2 - min a.2 b.2)] else []) ++ r)
  | l, r => (l, r)
theorem put1_put1 (p : Nat × Nat) (c : Bool) (n m : Nat) : put1 (put1 p (c, n)) (c, m) = put1 p (c, n + m) := by
  cases c
  · show (p.1, p.2 + n * p.1 + m * p.1) = (p.1, p.2 + (n + m) * p.1)
    rw [Nat.add_mul, Nat.add_assoc]
  · show (p.1 + n * p.2 + m * p.2, p.2) = (p.1 + (n + m) * p.2, p.2)
    rw [Nat.add_mul, Nat.add_assoc]
theorem restOf_ok : ∀ (l r : List (Bool × Nat)), ∃ c : List (Bool × Nat), (∀ p, grow p l = grow (grow p c) (restOf l r).1) ∧ (∀ p, grow p r = grow (grow p c) (restOf l r).2)
  | [], r => ⟨[], by intro p; unfold restOf; rfl, by intro p; unfold restOf; rfl⟩
  | a :: l, [] => ⟨[], by intro p; unfold restOf; rfl, by intro p; unfold restOf; rfl⟩
  | a :: l, b :: r => by
    by_cases e : a = b
    · subst e
      obtain ⟨c, h1, h2⟩ := restOf_ok l r
      refine ⟨a :: c, fun p => ?_, fun p => ?_⟩
      · rw [restOf, if_pos rfl]
        exact h1 (put1 p a)
      · rw [restOf, if_pos rfl]
        exact h2 (put1 p a)
    · by_cases e2 : a.1 ≠ b.1
      · refine ⟨[], fun p => ?_, fun p => ?_⟩
        · rw [restOf, if_neg e, if_pos e2]; rfl
        · rw [restOf, if_neg e, if_pos e2]; rfl
      · obtain ⟨c, n⟩ := a
        obtain ⟨c', m⟩ := b
        have ec : c = c' := by
          cases Decidable.em (c = c') with
          | inl h => exact h
          | inr h => exact absurd h e2
        subst ec
        have part : ∀ (k s : Nat) (t : List (Bool × Nat)) (p : Nat × Nat), s ≤ k → grow p ((c, k) :: t) = grow (grow p [(c, s)]) ((if k > s then [(c, k - s)] else []) ++ t) := fun k s t p hk => by
          by_cases z : k > s
          · rw [if_pos z]
            show grow (put1 p (c, k)) t = grow (put1 (put1 p (c, s)) (c, k - s)) t
            rw [put1_put1, Nat.add_sub_cancel' hk]
          · rw [if_neg z, show s = k by omega]
            rfl
        refine ⟨[(c, min n m)], fun p => ?_, fun p => ?_⟩
        · rw [restOf, if_neg e, if_neg (fun z => z rfl)]
          exact part n (min n m) l p (Nat.min_le_left _ _)
        · rw [restOf, if_neg e, if_neg (fun z => z rfl)]
          exact part m (min n m) r p (Nat.min_le_right _ _)
def cnt (l : List (Bool × Nat)) : Nat := (l.map (·.2)).sum
theorem cnt_app (l r : List (Bool × Nat)) : cnt (l ++ r) = cnt l + cnt r := by
  unfold cnt
  rw [List.map_append, List.sum_append]
/-- what is left: positive counts, not more of them, no more runs -/
theorem restOf_pos : ∀ (l r : List (Bool × Nat)), (∀ x ∈ l, 0 < x.2) → (∀ x ∈ r, 0 < x.2) →
    (∀ x ∈ (restOf l r).1, 0 < x.2) ∧ (∀ x ∈ (restOf l r).2, 0 < x.2) ∧ cnt (restOf l r).1 ≤ cnt l ∧ cnt (restOf l r).2 ≤ cnt r ∧ (restOf l r).1.length ≤ l.length ∧ (restOf l r).2.length ≤ r.length
  | [], r, h1, h2 => by unfold restOf; exact ⟨h1, h2, Nat.le_refl _, Nat.le_refl _, Nat.le_refl _, Nat.le_refl _⟩
  | a :: l, [], h1, h2 => by unfold restOf; exact ⟨h1, h2, Nat.le_refl _, Nat.le_refl _, Nat.le_refl _, Nat.le_refl _⟩
  | a :: l, b :: r, h1, h2 => by
    by_cases e : a = b
    · rw [restOf, if_pos e]
      obtain ⟨q1, q2, q3, q4, q5, q6⟩ := restOf_pos l r (fun x hx => h1 x (List.mem_cons_of_mem _ hx)) (fun x hx => h2 x (List.mem_cons_of_mem _ hx))
      refine ⟨q1, q2, ?_, ?_, by rw [List.length_cons]; omega, by rw [List.length_cons]; omega⟩
      · show _ ≤ ((a :: l).map (·.2)).sum
        rw [List.map_cons, List.sum_cons]
        exact Nat.le_trans q3 (Nat.le_add_left _ _)
      · show _ ≤ ((b :: r).map (·.2)).sum
        rw [List.map_cons, List.sum_cons]
        exact Nat.le_trans q4 (Nat.le_add_left _ _)
    · by_cases e2 : a.1 ≠ b.1
      · rw [restOf, if_neg e, if_pos e2]
        exact ⟨h1, h2, Nat.le_refl _, Nat.le_refl _, Nat.le_refl _, Nat.le_refl _⟩
      · rw [restOf, if_neg e, if_neg e2]
        have part : ∀ (k s : Nat) (c d : Bool) (t : List (Bool × Nat)), (∀ x ∈ t, 0 < x.2) → (∀ x ∈ (if k > s then [(c, k - s)] else []) ++ t, 0 < x.2) ∧ cnt ((if k > s then [(c, k - s)] else []) ++ t) ≤ cnt ((d, k) :: t) ∧ ((if k > s then [(c, k - s)] else []) ++ t).length ≤ ((d, k) :: t).length := fun k s c d t ht => by
          have ec : cnt ((d, k) :: t) = k + cnt t := by
            unfold cnt
            rw [List.map_cons, List.sum_cons]
          by_cases z : k > s
          · rw [if_pos z]
            refine ⟨fun x hx => ?_, ?_, ?_⟩
            · rcases List.mem_append.mp hx with q | q
              · rw [List.mem_singleton.mp q]
                show 0 < k - s
                omega
              · exact ht x q
            · rw [cnt_app, ec]
              show (k - s + 0) + _ ≤ _
              omega
            · simp
          · rw [if_neg z]
            refine ⟨fun x hx => ht x hx, ?_, ?_⟩
            · rw [ec]
              exact Nat.le_add_left _ _
            · simp
        have p1 := part a.2 (min a.2 b.2) a.1 a.1 l fun x hx => h1 x (List.mem_cons_of_mem _ hx)
        have p2 := part b.2 (min a.2 b.2) a.1 b.1 r fun x hx => h2 x (List.mem_cons_of_mem _ hx)
        exact ⟨p1.1, p2.1, p1.2.1, p2.2.1, p1.2.2, p2.2.2⟩
/-! ### neighbours put together -/
def keyOf (m : Mv) : Bool × Bool := (m.1, m.2.1)
def mstep (f : List Mv) (m : Mv) : List Mv := match f.getLast? with
  | some l => if keyOf l = keyOf m then f.dropLast ++ [(m.1, m.2.1, m.2.2 + l.2.2)] else f ++ [m]
  | none => f ++ [m]
def merge (ms : List Mv) : List Mv := ms.foldl mstep []
theorem last_split {f : List Mv} {l : Mv} (h : f.getLast? = some l) : f = f.dropLast ++ [l] := by
  have hne : f ≠ [] := fun e => by rw [e] at h; cases h
  rw [List.getLast?_eq_some_getLast hne] at h
  have e := Option.some.inj h
  rw [← e]
  exact (List.dropLast_concat_getLast hne).symm
theorem go_two {B : Nat} {p q r : Nat × Nat} {w a : Bool} {n m : Nat} (h1 : go1 B p (w, a, n) = some q) (h2 : go1 B q (w, a, m) = some r) : go1 B p (w, a, m + n) = some r := by
  have un : ∀ {p q : Nat × Nat} {m : Mv}, go1 B p m = some q → 0 < m.2.2 ∧ q.1 < B ∧ q.2 < B ∧ (match m with
    | (true, true, n) => q = (p.1 + n * p.2, p.2)
    | (true, false, n) => q = (p.1, p.2 + n * p.1)
    | (false, true, n) => n * p.2 ≤ p.1 ∧ q = (p.1 - n * p.2, p.2)
    | (false, false, n) => n * p.1 ≤ p.2 ∧ q = (p.1, p.2 - n * p.1)) := fun {p q m} h => by
    unfold go1 at h
    obtain ⟨z, hz, h⟩ := Option.bind_eq_some_iff.mp h
    by_cases c : 0 < m.2.2 ∧ z.1 < B ∧ z.2 < B
    · rw [if_pos c] at h
      cases h
      refine ⟨c.1, c.2.1, c.2.2, ?_⟩
      match m, hz with
      | (true, true, n), hz => exact (Option.some.inj hz).symm
      | (true, false, n), hz => exact (Option.some.inj hz).symm
      | (false, true, n), hz =>
        by_cases g : n * p.2 ≤ p.1
        · simp only [if_pos g] at hz
          exact ⟨g, (Option.some.inj hz).symm⟩
        · simp only [if_neg g] at hz
          cases hz
      | (false, false, n), hz =>
        by_cases g : n * p.1 ≤ p.2
        · simp only [if_pos g] at hz
          exact ⟨g, (Option.some.inj hz).symm⟩
        · simp only [if_neg g] at hz
          cases hz
    · rw [if_neg c] at h
      cases h
  have a1 := un h1
  have a2 := un h2
  have e : ∀ k : Nat, (m + n) * k = n * k + m * k := fun k => by rw [Nat.add_mul, Nat.add_comm]
  obtain ⟨b1, b2, b3, b4⟩ := a2
  have hpos : 0 < m + n := by have := a1.1; show 0 < m + n; have : 0 < n := this; omega
  match w, a with
  | true, true =>
    have q1 := a1.2.2.2
    have q2 := b4
    simp only at q1 q2
    subst q1
    have ee : (p.1 + (m + n) * p.2, p.2) = r := by rw [q2, e, Nat.add_assoc]
    show (if 0 < m + n ∧ (p.1 + (m + n) * p.2, p.2).1 < B ∧ (p.1 + (m + n) * p.2, p.2).2 < B then some (p.1 + (m + n) * p.2, p.2) else none) = _
    rw [ee, if_pos ⟨hpos, b2, b3⟩]
  | true, false =>
    have q1 := a1.2.2.2
    have q2 := b4
    simp only at q1 q2
    subst q1
    have ee : (p.1, p.2 + (m + n) * p.1) = r := by rw [q2, e, Nat.add_assoc]
    show (if 0 < m + n ∧ (p.1, p.2 + (m + n) * p.1).1 < B ∧ (p.1, p.2 + (m + n) * p.1).2 < B then some (p.1, p.2 + (m + n) * p.1) else none) = _
    rw [ee, if_pos ⟨hpos, b2, b3⟩]
  | false, true =>
    have q1 := a1.2.2.2
    have q2 := b4
    simp only at q1 q2
    obtain ⟨g1, q1⟩ := q1
    subst q1
    obtain ⟨g2, q2⟩ := q2
    have g3 : (m + n) * p.2 ≤ p.1 := by
      rw [e]
      have : m * p.2 ≤ p.1 - n * p.2 := g2
      omega
    show (if (m + n) * p.2 ≤ p.1 then some (p.1 - (m + n) * p.2, p.2) else none).bind _ = _
    have ee : (p.1 - (m + n) * p.2, p.2) = r := by
      rw [q2, e]
      show (_, _) = (p.1 - n * p.2 - m * p.2, _)
      rw [Nat.sub_sub]
    rw [if_pos g3, Option.bind_some, ee, if_pos ⟨hpos, b2, b3⟩]
  | false, false =>
    have q1 := a1.2.2.2
    have q2 := b4
    simp only at q1 q2
    obtain ⟨g1, q1⟩ := q1
    subst q1
    obtain ⟨g2, q2⟩ := q2
    have g3 : (m + n) * p.1 ≤ p.2 := by
      rw [e]
      have : m * p.1 ≤ p.2 - n * p.1 := g2
      omega
    show (if (m + n) * p.1 ≤ p.2 then some (p.1, p.2 - (m + n) * p.1) else none).bind _ = _
    have ee : (p.1, p.2 - (m + n) * p.1) = r := by
      rw [q2, e]
      show (_, _) = (_, p.2 - n * p.1 - m * p.1)
      rw [Nat.sub_sub]
    rw [if_pos g3, Option.bind_some, ee, if_pos ⟨hpos, b2, b3⟩]
theorem mstep_leads {B : Nat} {p q : Nat × Nat} {f : List Mv} {m : Mv} (h : leads B p (f ++ [m]) = some q) : leads B p (mstep f m) = some q := by
  unfold mstep
  cases e : f.getLast? with
  | none => exact h
  | some l =>
    show leads B p (if keyOf l = keyOf m then _ else _) = _
    by_cases c : keyOf l = keyOf m
    · rw [if_pos c]
      rw [last_split e, List.append_assoc, leads_app] at h
      rw [leads_app]
      obtain ⟨z, hz, h⟩ := Option.bind_eq_some_iff.mp h
      rw [hz, Option.bind_some]
      obtain ⟨w, a, n⟩ := l
      obtain ⟨w', a', n'⟩ := m
      have c1 : w = w' := (Prod.mk.inj c).1
      have c2 : a = a' := (Prod.mk.inj c).2
      subst c1 c2
      have h : (go1 B z (w, a, n)).bind (fun q => (go1 B q (w, a, n')).bind fun q => some q) = some q := h
      obtain ⟨z2, hz2, h⟩ := Option.bind_eq_some_iff.mp h
      obtain ⟨z3, hz3, h⟩ := Option.bind_eq_some_iff.mp h
      cases h
      show (go1 B z (w, a, n' + n)).bind (fun q => some q) = some q
      rw [go_two hz2 hz3]
      rfl
    · rw [if_neg c]
      exact h
theorem fold_leads {B : Nat} {p q : Nat × Nat} : ∀ (ms f : List Mv), leads B p (f ++ ms) = some q → leads B p (ms.foldl mstep f) = some q
  | [], f, h => by rw [List.append_nil] at h; exact h
  | m :: ms, f, h => by
    rw [List.foldl_cons]
    refine fold_leads ms (mstep f m) ?_
    rw [leads_app]
    have h2 : leads B p ((f ++ [m]) ++ ms) = some q := by rw [List.append_assoc]; exact h
    rw [leads_app] at h2
    obtain ⟨z, hz, h2⟩ := Option.bind_eq_some_iff.mp h2
    rw [mstep_leads hz, Option.bind_some]
    exact h2
theorem merge_leads {B : Nat} {p q : Nat × Nat} {ms : List Mv} (h : leads B p ms = some q) : leads B p (merge ms) = some q := fold_leads ms [] h
/-- neighbours differ -/
def Alt (f : List Mv) : Prop := ∀ (i : Nat) (a b : Mv), f[i]? = some a → f[i + 1]? = some b → keyOf a ≠ keyOf b
theorem Alt.snoc {f : List Mv} {m : Mv} (h : Alt f) (hl : ∀ l, f.getLast? = some l → keyOf l ≠ keyOf m) : Alt (f ++ [m]) := by
  intro i a b ha hb
  by_cases c : i + 1 < f.length
  · rw [List.getElem?_append_left (by omega)] at ha
    rw [List.getElem?_append_left c] at hb
    exact h i a b ha hb
  · have hlt : i + 1 < (f ++ [m]).length := (List.getElem?_eq_some_iff.mp hb).1
    rw [List.length_append, List.length_singleton] at hlt
    have e : i + 1 = f.length := by omega
    rw [e, List.getElem?_concat_length] at hb
    rw [List.getElem?_append_left (by omega)] at ha
    cases hb
    refine hl a ?_
    rw [List.getLast?_eq_getElem?, ← e, Nat.add_sub_cancel]
    exact ha
theorem Alt.key {f : List Mv} {m m' : Mv} (h : Alt (f ++ [m])) (hk : keyOf m' = keyOf m) : Alt (f ++ [m']) := by
  refine Alt.snoc (fun i a b ha hb => h i a b ?_ ?_) fun l hl => ?_
  · rw [List.getElem?_append_left (List.getElem?_eq_some_iff.mp ha).1]
    exact ha
  · rw [List.getElem?_append_left (List.getElem?_eq_some_iff.mp hb).1]
    exact hb
  · rw [hk]
    have hne : f ≠ [] := fun e => by rw [e] at hl; cases hl
    have hp : 0 < f.length := List.length_pos_iff.mpr hne
    rw [List.getLast?_eq_getElem?] at hl
    refine h (f.length - 1) l m ?_ ?_
    · rw [List.getElem?_append_left (by omega)]
      exact hl
    · rw [Nat.sub_add_cancel hp, List.getElem?_concat_length]
theorem mstep_alt {f : List Mv} {m : Mv} (h : Alt f) : Alt (mstep f m) := by
  unfold mstep
  cases e : f.getLast? with
  | none => exact Alt.snoc h fun l hl => by rw [e] at hl; cases hl
  | some l =>
    show Alt (if keyOf l = keyOf m then _ else _)
    by_cases c : keyOf l = keyOf m
    · rw [if_pos c]
      rw [last_split e] at h
      exact Alt.key h c.symm
    · rw [if_neg c]
      exact Alt.snoc h fun l' hl => by rw [e] at hl; cases hl; exact c
theorem fold_alt : ∀ (ms f : List Mv), Alt f → Alt (ms.foldl mstep f)
  | [], _, h => h
  | m :: ms, f, h => fold_alt ms (mstep f m) (mstep_alt h)
theorem merge_alt (ms : List Mv) : Alt (merge ms) := fold_alt ms [] fun i a b ha _ => by cases ha
def mcnt (f : List Mv) : Nat := (f.map (·.2.2)).sum
theorem mcnt_app (f g : List Mv) : mcnt (f ++ g) = mcnt f + mcnt g := by
  unfold mcnt
  rw [List.map_append, List.sum_append]
theorem mcnt_one (m : Mv) : mcnt [m] = m.2.2 := by
  unfold mcnt
  simp
theorem mstep_cnt (f : List Mv) (m : Mv) : mcnt (mstep f m) = mcnt f + m.2.2 := by
  unfold mstep
  cases e : f.getLast? with
  | none => show mcnt (f ++ [m]) = _; rw [mcnt_app, mcnt_one]
  | some l =>
    show mcnt (if keyOf l = keyOf m then _ else _) = _
    by_cases c : keyOf l = keyOf m
    · rw [if_pos c, mcnt_app, mcnt_one]
      conv => rhs; rw [last_split e, mcnt_app, mcnt_one]
      show _ + (m.2.2 + l.2.2) = _
      omega
    · rw [if_neg c, mcnt_app, mcnt_one]
theorem fold_cnt : ∀ (ms f : List Mv), mcnt (ms.foldl mstep f) = mcnt f + mcnt ms
  | [], f => rfl
  | m :: ms, f => by
    rw [List.foldl_cons, fold_cnt ms, mstep_cnt]
    have : mcnt (m :: ms) = m.2.2 + mcnt ms := by unfold mcnt; rw [List.map_cons, List.sum_cons]
    omega
theorem mstep_len (f : List Mv) (m : Mv) : (mstep f m).length ≤ f.length + 1 := by
  unfold mstep
  cases e : f.getLast? with
  | none => show (f ++ [m]).length ≤ _; rw [List.length_append]; exact Nat.le_refl _
  | some l =>
    show (if keyOf l = keyOf m then _ else _ : List Mv).length ≤ _
    by_cases c : keyOf l = keyOf m
    · rw [if_pos c, List.length_append, List.length_dropLast]
      show f.length - 1 + 1 ≤ f.length + 1
      omega
    · rw [if_neg c, List.length_append]
      exact Nat.le_refl _
theorem fold_len : ∀ (ms f : List Mv), (ms.foldl mstep f).length ≤ f.length + ms.length
  | [], f => Nat.le_refl _
  | m :: ms, f => by
    rw [List.foldl_cons, List.length_cons]
    have h1 := fold_len ms (mstep f m)
    have h2 := mstep_len f m
    omega
theorem cnt_le {f : List Mv} {m : Mv} (h : m ∈ f) : m.2.2 ≤ mcnt f := by
  induction f with
  | nil => cases h
  | cons a f ih =>
    have e : mcnt (a :: f) = a.2.2 + mcnt f := by unfold mcnt; rw [List.map_cons, List.sum_cons]
    rcases List.mem_cons.mp h with q | q
    · rw [q, e]; omega
    · have := ih q
      omega
/-! ### the way -/
def wayL (x y u w : Nat) : List (Bool × Nat) × List (Bool × Nat) := if bot x y = bot u w then restOf (R x y).reverse (R u w).reverse else ((R x y).reverse, (R u w).reverse)
def wayUp (s e : Str) : List Mv := if s ≠ e ∧ s ≠ "even" then [(true, decide (s ≠ "flat"), 1)] else []
def wayDown (s e : Str) : List Mv := if s ≠ e ∧ e ≠ "even" then [(false, decide (e ≠ "flat"), 1)] else []
def wayRaw (x y u w : Nat) : List Mv := takes (wayL x y u w).1.reverse ++ wayUp (bot x y) (bot u w) ++ wayDown (bot x y) (bot u w) ++ adds (wayL x y u w).2
def wayM (x y u w : Nat) : List Mv := merge (wayRaw x y u w)
end Bx
namespace Bx
open PySem PySem.Spec PyProof.Rows L2
theorem bot_cases (x y : Nat) : bot x y = "even" ∨ bot x y = "flat" ∨ bot x y = "steep" := by
  unfold bot
  by_cases hy : y = 0
  · rw [if_pos hy]; exact .inr (.inl rfl)
  · rw [if_neg hy]
    by_cases hx : x = 0
    · rw [if_pos hx]; exact .inr (.inr rfl)
    · rw [if_neg hx]; exact .inl rfl
theorem ne_ef : ("even" : Str) ≠ "flat" := by decide +kernel
theorem ne_es : ("even" : Str) ≠ "steep" := by decide +kernel
theorem ne_fs : ("flat" : Str) ≠ "steep" := by decide +kernel
theorem base_flat (g : Nat) : base "flat" g = (g, 0) := if_pos rfl
theorem base_steep (g : Nat) : base "steep" g = (0, g) := by
  unfold base
  rw [if_neg ne_fs.symm, if_pos rfl]
theorem base_even (g : Nat) : base "even" g = (g, g) := by
  unfold base
  rw [if_neg ne_ef, if_neg ne_es]
theorem go_up {B g : Nat} {s e : Str} (hs : s = "even" ∨ s = "flat" ∨ s = "steep") (hne : s ≠ e) (h0 : g < B) : leads B (base s g) (wayUp s e) = some (g, g) := by
  unfold wayUp
  rcases hs with rfl | rfl | rfl
  · rw [if_neg (fun z => z.2 rfl), base_even]; rfl
  · rw [if_pos ⟨hne, ne_ef.symm⟩, base_flat, decide_eq_false (fun z => z rfl)]
    show (go1 B (g, 0) (true, false, 1)).bind (fun q => some q) = _
    have e1 : go1 B (g, 0) (true, false, 1) = some (g, 0 + 1 * g) := by
      show (if 0 < 1 ∧ g < B ∧ 0 + 1 * g < B then some (g, 0 + 1 * g) else none) = _
      rw [if_pos ⟨by omega, h0, by omega⟩]
    rw [e1, Option.bind_some, Nat.one_mul, Nat.zero_add]
  · rw [if_pos ⟨hne, ne_es.symm⟩, base_steep, decide_eq_true ne_fs.symm]
    show (go1 B (0, g) (true, true, 1)).bind (fun q => some q) = _
    have e1 : go1 B (0, g) (true, true, 1) = some (0 + 1 * g, g) := by
      show (if 0 < 1 ∧ 0 + 1 * g < B ∧ g < B then some (0 + 1 * g, g) else none) = _
      rw [if_pos ⟨by omega, by omega, h0⟩]
    rw [e1, Option.bind_some, Nat.one_mul, Nat.zero_add]
theorem go_down {B g : Nat} {s e : Str} (he : e = "even" ∨ e = "flat" ∨ e = "steep") (hne : s ≠ e) (h0 : g < B) : leads B (g, g) (wayDown s e) = some (base e g) := by
  unfold wayDown
  rcases he with rfl | rfl | rfl
  · rw [if_neg (fun z => z.2 rfl), base_even]; rfl
  · rw [if_pos ⟨hne, ne_ef.symm⟩, base_flat, decide_eq_false (fun z => z rfl)]
    show (go1 B (g, g) (false, false, 1)).bind (fun q => some q) = _
    have e1 : go1 B (g, g) (false, false, 1) = some (g, 0) := by
      show ((if 1 * g ≤ g then some (g, g - 1 * g) else none).bind fun q => if 0 < 1 ∧ q.1 < B ∧ q.2 < B then some q else none) = _
      rw [if_pos (by omega), Option.bind_some, Nat.one_mul, Nat.sub_self, if_pos ⟨by omega, h0, by show 0 < B; omega⟩]
    rw [e1, Option.bind_some]
  · rw [if_pos ⟨hne, ne_es.symm⟩, base_steep, decide_eq_true ne_fs.symm]
    show (go1 B (g, g) (false, true, 1)).bind (fun q => some q) = _
    have e1 : go1 B (g, g) (false, true, 1) = some (0, g) := by
      show ((if 1 * g ≤ g then some (g - 1 * g, g) else none).bind fun q => if 0 < 1 ∧ q.1 < B ∧ q.2 < B then some q else none) = _
      rw [if_pos (by omega), Option.bind_some, Nat.one_mul, Nat.sub_self, if_pos ⟨by omega, by show 0 < B; omega, h0⟩]
    rw [e1, Option.bind_some]
theorem gcd_lt {x y B : Nat} (h : ¬ (x = 0 ∧ y = 0)) (hx : x < B) (hy : y < B) : Nat.gcd x y < B := by
  by_cases c : x = 0
  · subst c
    rw [Nat.gcd_zero_left]
    exact hy
  · exact Nat.lt_of_le_of_lt (Nat.gcd_le_left y (by omega)) hx
theorem wayRaw_leads {x y u w B : Nat} (h1 : ¬ (x = 0 ∧ y = 0)) (h2 : ¬ (u = 0 ∧ w = 0)) (hg : Nat.gcd x y = Nat.gcd u w) (bx : x < B) (bY : y < B) (bu : u < B) (bw : w < B) : leads B (x, y) (wayRaw x y u w) = some (u, w) := by
  have pl : ∀ r ∈ (R x y).reverse, 0 < r.2 := fun r hr => R_pos' x y r (List.mem_reverse.mp hr)
  have pr : ∀ r ∈ (R u w).reverse, 0 < r.2 := fun r hr => R_pos' u w r (List.mem_reverse.mp hr)
  unfold wayRaw wayL
  by_cases hb : bot x y = bot u w
  · rw [if_pos hb]
    have eu : wayUp (bot x y) (bot u w) = [] := if_neg fun z => z.1 hb
    have ed : wayDown (bot x y) (bot u w) = [] := if_neg fun z => z.1 hb
    rw [eu, ed, List.append_nil, List.append_nil]
    have ef : fin x y = fin u w := by rw [fin_base h1, fin_base h2, hb, hg]
    obtain ⟨c, q1, q2⟩ := restOf_ok (R x y).reverse (R u w).reverse
    obtain ⟨p1, p2, _⟩ := restOf_pos (R x y).reverse (R u w).reverse pl pr
    have e1 := q1 (fin x y)
    have e2 := q2 (fin x y)
    rw [grow_R] at e1
    rw [ef, grow_R] at e2
    rw [leads_app]
    have t := leads_takes B (grow (fin x y) c) (restOf (R x y).reverse (R u w).reverse).1.reverse (fun r hr => p1 r (List.mem_reverse.mp hr))
    rw [List.reverse_reverse, ← e1] at t
    rw [t bx bY, Option.bind_some]
    have a := leads_adds B (restOf (R x y).reverse (R u w).reverse).2 (grow (fin x y) c) p2
    rw [ef, ← e2] at a
    rw [ef]
    exact a bu bw
  · rw [if_neg hb]
    have t := leads_takes B (fin x y) (R x y) (R_pos' x y)
    rw [grow_R] at t
    have a := leads_adds B (R u w).reverse (fin u w) pr
    rw [grow_R] at a
    have gB := gcd_lt h1 bx bY
    show leads B (x, y) (takes (R x y).reverse.reverse ++ _ ++ _ ++ adds (R u w).reverse) = _
    rw [leads_app, leads_app, leads_app, List.reverse_reverse, t bx bY, Option.bind_some, fin_base h1, go_up (bot_cases x y) hb gB, Option.bind_some, go_down (bot_cases u w) hb gB, Option.bind_some, hg, ← fin_base h2]
    exact a bu bw
theorem wayM_leads {x y u w B : Nat} (h1 : ¬ (x = 0 ∧ y = 0)) (h2 : ¬ (u = 0 ∧ w = 0)) (hg : Nat.gcd x y = Nat.gcd u w) (bx : x < B) (bY : y < B) (bu : u < B) (bw : w < B) : leads B (x, y) (wayM x y u w) = some (u, w) :=
  merge_leads (wayRaw_leads h1 h2 hg bx bY bu bw)
theorem cnt_R (x y : Nat) : cnt (R x y).reverse ≤ x + y := by
  have e : cnt (R x y).reverse = cnt (R x y) := by
    unfold cnt
    rw [List.map_reverse, List.sum_reverse]
  rw [e]
  show ((R x y).map (·.2)).sum ≤ _
  rw [← spell_len, spell_R]
  exact L_le x y
theorem wayL_cnt (x y u w : Nat) : cnt (wayL x y u w).1 ≤ x + y ∧ cnt (wayL x y u w).2 ≤ u + w ∧ (wayL x y u w).1.length ≤ (R x y).length ∧ (wayL x y u w).2.length ≤ (R u w).length := by
  have pl : ∀ r ∈ (R x y).reverse, 0 < r.2 := fun r hr => R_pos' x y r (List.mem_reverse.mp hr)
  have pr : ∀ r ∈ (R u w).reverse, 0 < r.2 := fun r hr => R_pos' u w r (List.mem_reverse.mp hr)
  unfold wayL
  by_cases hb : bot x y = bot u w
  · rw [if_pos hb]
    obtain ⟨_, _, q3, q4, q5, q6⟩ := restOf_pos (R x y).reverse (R u w).reverse pl pr
    rw [List.length_reverse] at q5 q6
    exact ⟨Nat.le_trans q3 (cnt_R x y), Nat.le_trans q4 (cnt_R u w), q5, q6⟩
  · rw [if_neg hb]
    refine ⟨cnt_R x y, cnt_R u w, ?_, ?_⟩
    · rw [List.length_reverse]; exact Nat.le_refl _
    · rw [List.length_reverse]; exact Nat.le_refl _
theorem mcnt_takes (l : List (Bool × Nat)) : mcnt (takes l) = cnt l := by
  unfold mcnt takes cnt
  rw [List.map_map]
  rfl
theorem mcnt_adds (l : List (Bool × Nat)) : mcnt (adds l) = cnt l := by
  unfold mcnt adds cnt
  rw [List.map_map]
  rfl
theorem up_cnt (s e : Str) : mcnt (wayUp s e) ≤ 1 ∧ (wayUp s e).length ≤ 1 := by
  unfold wayUp
  by_cases c : s ≠ e ∧ s ≠ "even"
  · rw [if_pos c]; exact ⟨Nat.le_refl _, Nat.le_refl _⟩
  · rw [if_neg c]; exact ⟨Nat.zero_le _, Nat.zero_le _⟩
theorem down_cnt (s e : Str) : mcnt (wayDown s e) ≤ 1 ∧ (wayDown s e).length ≤ 1 := by
  unfold wayDown
  by_cases c : s ≠ e ∧ e ≠ "even"
  · rw [if_pos c]; exact ⟨Nat.le_refl _, Nat.le_refl _⟩
  · rw [if_neg c]; exact ⟨Nat.zero_le _, Nat.zero_le _⟩
theorem wayM_cnt (x y u w : Nat) : mcnt (wayM x y u w) ≤ (x + y) + (u + w) + 2 ∧ (wayM x y u w).length ≤ (R x y).length + (R u w).length + 2 := by
  obtain ⟨h1, h2, h3, h4⟩ := wayL_cnt x y u w
  have u1 := up_cnt (bot x y) (bot u w)
  have d1 := down_cnt (bot x y) (bot u w)
  have er : cnt (wayL x y u w).1.reverse = cnt (wayL x y u w).1 := by
    unfold cnt
    rw [List.map_reverse, List.sum_reverse]
  constructor
  · have e : mcnt (wayM x y u w) = mcnt (wayRaw x y u w) := by
      have := fold_cnt (wayRaw x y u w) []
      exact this.trans (Nat.zero_add _)
    rw [e]
    unfold wayRaw
    rw [mcnt_app, mcnt_app, mcnt_app, mcnt_takes, mcnt_adds, er]
    omega
  · have e := fold_len (wayRaw x y u w) []
    have e2 : (wayRaw x y u w).length = (wayL x y u w).1.length + (wayUp (bot x y) (bot u w)).length + (wayDown (bot x y) (bot u w)).length + (wayL x y u w).2.length := by
      unfold wayRaw takes adds
      rw [List.length_append, List.length_append, List.length_append, List.length_map, List.length_map, List.length_reverse]
    have e3 : (wayM x y u w).length ≤ 0 + (wayRaw x y u w).length := e
    omega
theorem restOf_self : ∀ l : List (Bool × Nat), restOf l l = ([], [])
  | [] => by unfold restOf; rfl
  | a :: l => by rw [restOf, if_pos rfl, restOf_self l]
theorem wayM_self (x y : Nat) : wayM x y x y = [] := by
  have e : wayRaw x y x y = [] := by
    unfold wayRaw wayL wayUp wayDown
    rw [if_pos rfl, restOf_self, if_neg (fun z => z.1 rfl), if_neg (fun z => z.1 rfl)]
    rfl
  unfold wayM
  rw [e]
  rfl
end Bx
namespace Bx
open PySem PySem.Spec PyProof.Rows L2
theorem noL_mvD (m : Mv) : noL (mvD m) = true := rfl
def kD (k : Bool × Bool) : PyData := .tuple [.str (if k.1 then "add" else "take"), .str (if k.2 then "x" else "y")]
theorem eqv_kD (a b : Bool × Bool) : PyData.eqv (kD a) (kD b) = decide (a = b) := by
  obtain ⟨a1, a2⟩ := a
  obtain ⟨b1, b2⟩ := b
  cases a1 <;> cases a2 <;> cases b1 <;> cases b2 <;> decide +kernel
theorem shaped_kD (a : Bool × Bool) : SeqAt.shaped (kD a) = true := by
  obtain ⟨a1, a2⟩ := a
  cases a1 <;> cases a2 <;> decide +kernel
theorem canLay_mvD (m : Mv) : (mvD m).canLay0 = true := by
  obtain ⟨w, a, n⟩ := m
  have h : ∀ (x y : Str), PyData.canLay0 (.str x) = true → PyData.canLay0 (.str y) = true → (PyData.tuple [.str x, .str y, .int (n : Int)]).canLay0 = true := fun x y h1 h2 => by
    rw [PyData.canLay0, PyData.canLayAll0, h1, PyData.canLayAll0, h2]
    rfl
  have h1 : ∀ b : Bool, PyData.canLay0 (.str (if b then "add" else "take")) = true := fun b => by cases b <;> decide +kernel
  have h2 : ∀ b : Bool, PyData.canLay0 (.str (if b then "x" else "y")) = true := fun b => by cases b <;> decide +kernel
  exact h _ _ (h1 w) (h2 a)
theorem shaped_list {α : Type} {f : α → PyData} {n : Nat} (h : ∀ x, (f x).canLay0 = true) (d : ∀ x, (f x).depth ≤ n) (hn : n ≤ 63) (l : List α) : SeqAt.shaped (.list (l.map f)) = true := by
  unfold SeqAt.shaped
  have h2 : (PyData.list (l.map f)).canLay0 = true := by
    rw [PyData.canLay0]
    exact canLay_map h l
  have h3 := depthAll_map d l
  have h4 : (PyData.list (l.map f)).depth ≤ 64 := by
    show PyData.depthAll (l.map f) + 1 ≤ 64
    omega
  rw [h2, decide_eq_true h4]
  rfl
theorem shaped_mvs (l : List Mv) : SeqAt.shaped (.list (l.map mvD)) = true := shaped_list (n := 1) canLay_mvD (fun _ => Nat.le_refl _) (by decide) l
theorem eqv_listnil (l : List PyData) : PyData.eqv (.list l) (.list []) = l.isEmpty := by
  cases l with
  | nil => rfl
  | cons a l => rfl
theorem DpAll.snoc' {K : PySem.W.Frag} {H : Hp} : ∀ {ds : List PyData} {d : PyData} {us : List V}, DpAll K H us (ds ++ [d]) → ∃ us0 u, us = us0 ++ [u] ∧ DpAll K H us0 ds ∧ Dp K H u d
  | [], d, us, h => by
    cases h with
    | cons h1 h2 =>
      cases h2
      exact ⟨[], _, rfl, .nil, h1⟩
  | _ :: ds, d, us, h => by
    cases h with
    | cons h1 h2 =>
      obtain ⟨us0, u, rfl, h3, h4⟩ := DpAll.snoc' (ds := ds) h2
      exact ⟨_ :: us0, u, rfl, .cons h1 h3, h4⟩
theorem Dp.triple {K : PySem.W.Frag} {H : Hp} {v : V} {m : Mv} (h : Dp K H v (mvD m)) : ∃ a, v = .ref a ∧ SqT K H a [.str (if m.1 then "add" else "take"), .str (if m.2.1 then "x" else "y"), .int (m.2.2 : Int)] := by
  cases h with
  | tup hs ha =>
    cases ha with
    | cons h1 h2 =>
      cases h2 with
      | cons h3 h4 =>
        cases h4 with
        | cons h5 h6 =>
          cases h6
          cases Dp.str' h1
          cases Dp.str' h3
          cases Dp.int' h5
          exact ⟨_, rfl, hs⟩
theorem Dp.move {K : PySem.W.Frag} {H : Hp} {a : Addr} {w x : Bool} {n : Int} {k : Nat} (e : n = (k : Int)) (h : SqT K H a [.str (if w then "add" else "take"), .str (if x then "x" else "y"), .int n]) : Dp K H (.ref a) (mvD (w, x, k)) := by
  subst e
  exact .tup h (.cons (.str _) (.cons (.str _) (.cons (.int _) .nil)))
theorem cut_to2 (a b c : V) : cutV [a, b, c] none (some 2) = [a, b] := rfl
theorem at3_0 (a b c : V) : atI [a, b, c] 0 = some a := rfl
theorem at3_1 (a b c : V) : atI [a, b, c] 1 = some b := rfl
theorem at3_2 (a b c : V) : atI [a, b, c] 2 = some c := rfl
theorem foldl_take {l : List Mv} {i : Nat} {m : Mv} (h : l[i]? = some m) : (l.take (i + 1)).foldl mstep [] = mstep ((l.take i).foldl mstep []) m := by
  rw [List.take_add_one, h, Option.toList_some, List.foldl_append]
  rfl
end Bx
-- needs clsops
-- imports HandS.HeadNt
/-! own classes over one another: a property that is inherited, isinstance against another class -/
namespace Bx
open PySem PySem.Spec PyProof.Rows L2
/-- both classes have the same getter -/
def PSame (K : PySem.W.Frag) (C B : Addr) (x : Str) : Prop := He5.wf K C "property" x = He5.wf K B "property" x
def psameB (K : PySem.W.Frag) (C B : Addr) (x : Str) : Bool := decide (He5.wf K C "property" x = He5.wf K B "property" x)
theorem psameB_ok {K : PySem.W.Frag} {C B : Addr} {x : Str} (h : psameB K C B x = true) : PSame K C B x := by
  show He5.wf K C "property" x = He5.wf K B "property" x
  exact of_decide_eq_true h
section
variable {X : Cx} {CX : CXT} {k : Nat} {C B p : Addr} {ps : List Str} {sp : Sp} {E : XK} {x : Str} {pos : Pos} {e : Expr} {ta : TE}
theorem pe_propI (he : PE X e ta) (c : L2.Cls X.K C) (hp : PropOf X.K C x p (He5.wf X.K C "property" x)) (hs : PSame X.K C B x) (G : GoodM X.prog X.w X.K X.mg X.base CX k (He5.wf X.K B "property" x) ps sp) (hr : Room (k + 1) X.A) (hx : Passes CX X.nox E)
    (hab : attributeBase e x X.env (eval e X.env) = eval e X.env) : PE X (.Attribute e x pos) (tProp C sp [] E ta) := by
  have G' : GoodM X.prog X.w X.K X.mg X.base CX k (He5.wf X.K C "property" x) ps sp := by
    rw [show He5.wf X.K C "property" x = He5.wf X.K B "property" x from hs]
    exact G
  exact pe_propG he c hp G' hr hx hab
theorem call_isD {r : Bool} (c : C8.InsC X.K C) (k : PySem.W.kitOne X.K (.ref C) (.ref B) = some r) : CallR X (.builtin "isinstance") (fun xs H Q => ∃ a dx fs, xs = [.ref a, .ref B] ∧ H a = some (.ins C dx fs) ∧ Q (.bl r) H) := by
  intro pins s σ H xs us Q I rr h
  obtain ⟨a, dx, fs, rfl, ha, q⟩ := h
  obtain ⟨u, w', rfl, ru, rw'⟩ := vals2 rr
  cases rw'
  exact isinst_ok I ru (TyOf.ins ha c.cl c.ha c.hn c.htk c.hm) k fun tk => ⟨.bl r, H, I.tok _, rfl, q⟩
end
end Bx

namespace Lw
open PySem PySem.Spec PyProof.Rows L2 Bx
def top (i : Nat) : Stmt := PySem.Challenge.pw_addpath_k19_counted_runs.main.body.getD i (.Pass ⟨0, 0, 0, 0⟩)
abbrev s__law_field : Stmt := top 38
abbrev s__law_try : Stmt := top 39
abbrev s__law_pull : Stmt := top 36
abbrev s__law_same : Stmt := top 37
abbrev s_Runner_outcome : Stmt := inClass (top 31) 3
abbrev s_Runner_at : Stmt := inClass (top 31) 2
abbrev s_Runner_pair : Stmt := inClass (top 31) 1
abbrev s_Runner_steps : Stmt := inClass (top 31) 4
abbrev s_CountingRunner_counts : Stmt := inClass (top 32) 3
abbrev s_Runner_back : Stmt := inClass (top 31) 7
abbrev s_CountingRunner_back : Stmt := inClass (top 32) 2
abbrev s_is_true : Stmt := top 29
abbrev s_changed : Stmt := top 30
abbrev s_behind : Stmt := top 33
abbrev s_is_number : Stmt := top 10
abbrev s_Runner_step : Stmt := inClass (top 31) 6
abbrev s_CountingRunner_step : Stmt := inClass (top 32) 1
abbrev s_Program_lines : Stmt := inClass (top 26) 4
abbrev s_is_pair : Stmt := top 12
abbrev s_need_pair : Stmt := top 13
abbrev s_Runner___init__ : Stmt := inClass (top 31) 0
abbrev s_CountingRunner___init__ : Stmt := inClass (top 32) 0
abbrev s_is_name : Stmt := top 21
abbrev s_is_within : Stmt := top 23
abbrev s_is_one_of : Stmt := top 22
abbrev s_is_test : Stmt := top 24
abbrev s_is_line : Stmt := top 25
abbrev s_Program___init__ : Stmt := inClass (top 26) 1
abbrev s__law_program : Stmt := top 45
abbrev s__law_pair : Stmt := top 40
abbrev s__law_true : Stmt := top 46
abbrev s__law_rests : Stmt := top 48
abbrev s__law_followers : Stmt := top 49
abbrev s__law_modulus : Stmt := top 47
abbrev s__law_states : Stmt := top 50
abbrev s__law_test : Stmt := top 41
abbrev s__law_line : Stmt := top 42
abbrev s__law_drawn : Stmt := top 43
abbrev s__law_lines : Stmt := top 44
abbrev s__law_bag : Stmt := top 35
abbrev s_law : Stmt := top 51
def d__law_field : He.DefD := ⟨("_law_field", none), "_law_field", "_law_field", defArgs s__law_field, defBody s__law_field, defScope s__law_field, [], []⟩
def d__law_try : He.DefD := ⟨("_law_try", none), "_law_try", "_law_try", defArgs s__law_try, defBody s__law_try, defScope s__law_try, [], []⟩
def d__law_pull : He.DefD := ⟨("_law_pull", none), "_law_pull", "_law_pull", defArgs s__law_pull, defBody s__law_pull, defScope s__law_pull, [], []⟩
def d__law_same : He.DefD := ⟨("_law_same", none), "_law_same", "_law_same", defArgs s__law_same, defBody s__law_same, defScope s__law_same, [], []⟩
def d_Runner_outcome : He5.DefA := ⟨fun K => (He5.wf K (He.ga K "Runner") "property" "outcome"), "outcome", "Runner.outcome", defArgs s_Runner_outcome, defBody s_Runner_outcome, defScope s_Runner_outcome, [], []⟩
def d_Runner_at : He5.DefA := ⟨fun K => (He5.wf K (He.ga K "Runner") "property" "at"), "at", "Runner.at", defArgs s_Runner_at, defBody s_Runner_at, defScope s_Runner_at, [], []⟩
def d_Runner_pair : He5.DefA := ⟨fun K => (He5.wf K (He.ga K "Runner") "property" "pair"), "pair", "Runner.pair", defArgs s_Runner_pair, defBody s_Runner_pair, defScope s_Runner_pair, [], []⟩
def d_Runner_steps : He5.DefA := ⟨fun K => (He5.wf K (He.ga K "Runner") "property" "steps"), "steps", "Runner.steps", defArgs s_Runner_steps, defBody s_Runner_steps, defScope s_Runner_steps, [], []⟩
def d_CountingRunner_counts : He.DefD := ⟨("CountingRunner", some "counts"), "counts", "CountingRunner.counts", defArgs s_CountingRunner_counts, defBody s_CountingRunner_counts, defScope s_CountingRunner_counts, [], []⟩
def d_Runner_back : He.DefD := ⟨("Runner", some "back"), "back", "Runner.back", defArgs s_Runner_back, defBody s_Runner_back, defScope s_Runner_back, [], []⟩
def d_is_true : He.DefD := ⟨("is_true", none), "is_true", "is_true", defArgs s_is_true, defBody s_is_true, defScope s_is_true, [], []⟩
def d_changed : He.DefD := ⟨("changed", none), "changed", "changed", defArgs s_changed, defBody s_changed, defScope s_changed, [], []⟩
def d_behind : He.DefD := ⟨("behind", none), "behind", "behind", defArgs s_behind, defBody s_behind, defScope s_behind, [], []⟩
def d_is_number : He.DefD := ⟨("is_number", none), "is_number", "is_number", defArgs s_is_number, defBody s_is_number, defScope s_is_number, [], []⟩
def d_Runner_step : He.DefD := ⟨("Runner", some "step"), "step", "Runner.step", defArgs s_Runner_step, defBody s_Runner_step, defScope s_Runner_step, [], [("choice", .int 0)]⟩
def d_Program_lines : He.DefD := ⟨("Program", some "lines"), "lines", "Program.lines", defArgs s_Program_lines, defBody s_Program_lines, defScope s_Program_lines, [], []⟩
def d_is_pair : He.DefD := ⟨("is_pair", none), "is_pair", "is_pair", defArgs s_is_pair, defBody s_is_pair, defScope s_is_pair, [], []⟩
def d_need_pair : He.DefD := ⟨("need_pair", none), "need_pair", "need_pair", defArgs s_need_pair, defBody s_need_pair, defScope s_need_pair, [], []⟩
def d_Runner___init__ : He.DefD := ⟨("Runner", some "__init__"), "__init__", "Runner.__init__", defArgs s_Runner___init__, defBody s_Runner___init__, defScope s_Runner___init__, [], []⟩
def d_is_name : He.DefD := ⟨("is_name", none), "is_name", "is_name", defArgs s_is_name, defBody s_is_name, defScope s_is_name, [], []⟩
def d_is_within : He.DefD := ⟨("is_within", none), "is_within", "is_within", defArgs s_is_within, defBody s_is_within, defScope s_is_within, [], []⟩
def d_is_one_of : He.DefD := ⟨("is_one_of", none), "is_one_of", "is_one_of", defArgs s_is_one_of, defBody s_is_one_of, defScope s_is_one_of, [], []⟩
def d_is_test : He.DefD := ⟨("is_test", none), "is_test", "is_test", defArgs s_is_test, defBody s_is_test, defScope s_is_test, [], []⟩
def d_is_line : He.DefD := ⟨("is_line", none), "is_line", "is_line", defArgs s_is_line, defBody s_is_line, defScope s_is_line, [], []⟩
def d_Program___init__ : He.DefD := ⟨("Program", some "__init__"), "__init__", "Program.__init__", defArgs s_Program___init__, defBody s_Program___init__, defScope s_Program___init__, [], []⟩
def d__law_program : He.DefD := ⟨("_law_program", none), "_law_program", "_law_program", defArgs s__law_program, defBody s__law_program, defScope s__law_program, [], []⟩
def d__law_pair : He.DefD := ⟨("_law_pair", none), "_law_pair", "_law_pair", defArgs s__law_pair, defBody s__law_pair, defScope s__law_pair, [], []⟩
def d__law_true : He.DefD := ⟨("_law_true", none), "_law_true", "_law_true", defArgs s__law_true, defBody s__law_true, defScope s__law_true, [], []⟩
def d__law_rests : He.DefD := ⟨("_law_rests", none), "_law_rests", "_law_rests", defArgs s__law_rests, defBody s__law_rests, defScope s__law_rests, [], []⟩
def d__law_followers : He.DefD := ⟨("_law_followers", none), "_law_followers", "_law_followers", defArgs s__law_followers, defBody s__law_followers, defScope s__law_followers, [], []⟩
def d__law_modulus : He.DefD := ⟨("_law_modulus", none), "_law_modulus", "_law_modulus", defArgs s__law_modulus, defBody s__law_modulus, defScope s__law_modulus, [], []⟩
def d__law_states : He.DefD := ⟨("_law_states", none), "_law_states", "_law_states", defArgs s__law_states, defBody s__law_states, defScope s__law_states, [], []⟩
def d__law_test : He.DefD := ⟨("_law_test", none), "_law_test", "_law_test", defArgs s__law_test, defBody s__law_test, defScope s__law_test, [], []⟩
def d__law_line : He.DefD := ⟨("_law_line", none), "_law_line", "_law_line", defArgs s__law_line, defBody s__law_line, defScope s__law_line, [], []⟩
def d__law_drawn : He.DefD := ⟨("_law_drawn", none), "_law_drawn", "_law_drawn", defArgs s__law_drawn, defBody s__law_drawn, defScope s__law_drawn, [], []⟩
def d__law_lines : He.DefD := ⟨("_law_lines", none), "_law_lines", "_law_lines", defArgs s__law_lines, defBody s__law_lines, defScope s__law_lines, [], []⟩
def d__law_bag : He.DefD := ⟨("_law_bag", none), "_law_bag", "_law_bag", defArgs s__law_bag, defBody s__law_bag, defScope s__law_bag, [], []⟩
def d_law : He.DefD := ⟨("law", none), "law", "law", defArgs s_law, defBody s_law, defScope s_law, [], []⟩
def fnl : List He.DefD := d__law_field :: d__law_try :: d__law_pull :: d__law_same :: d_CountingRunner_counts :: d_Runner_back :: d_is_true :: d_changed :: d_behind :: d_is_number :: d_Runner_step :: d_Program_lines :: d_is_pair :: d_need_pair :: d_Runner___init__ :: d_is_name :: d_is_within :: d_is_one_of :: d_is_test :: d_is_line :: d_Program___init__ :: d__law_program :: d__law_pair :: d__law_true :: d__law_rests :: d__law_followers :: d__law_modulus :: d__law_states :: d__law_test :: d__law_line :: d__law_drawn :: d__law_lines :: d__law_bag :: d_law :: []
def fna : List He5.DefA := d_Runner_outcome :: d_Runner_at :: d_Runner_pair :: d_Runner_steps :: []
abbrev sx_NothingLeft : Stmt := inClass (top 8) 0
def dx_NothingLeft : DefS := ⟨"NothingLeft", "__init__", "", "NothingLeft.__init__", defArgs sx_NothingLeft, defBody sx_NothingLeft, defScope sx_NothingLeft, "/claim/cut.py", EB.ie⟩
abbrev sx_Ended : Stmt := inClass (top 7) 0
def dx_Ended : DefS := ⟨"Ended", "__init__", "", "Ended.__init__", defArgs sx_Ended, defBody sx_Ended, defScope sx_Ended, "/claim/cut.py", EB.ve⟩
def dm_CountingRunner_back : DefS := ⟨"CountingRunner", "back", "Runner", "CountingRunner.back", defArgs s_CountingRunner_back, defBody s_CountingRunner_back, defScope s_CountingRunner_back, "/claim/cut.py", EB.ve⟩
def dm_CountingRunner_step : DefS := ⟨"CountingRunner", "step", "Runner", "CountingRunner.step", defArgs s_CountingRunner_step, defBody s_CountingRunner_step, defScope s_CountingRunner_step, "/claim/cut.py", EB.ve⟩
def dm_CountingRunner___init__ : DefS := ⟨"CountingRunner", "__init__", "Runner", "CountingRunner.__init__", defArgs s_CountingRunner___init__, defBody s_CountingRunner___init__, defScope s_CountingRunner___init__, "/claim/cut.py", EB.ve⟩
def fns : List DefS := dx_NothingLeft :: dx_Ended :: dm_CountingRunner_back :: dm_CountingRunner_step :: dm_CountingRunner___init__ :: []
def glos : List Str := "_law_field" :: "_law_try" :: "_law_pull" :: "_law_same" :: "is_true" :: "changed" :: "behind" :: "is_number" :: "is_pair" :: "need_pair" :: "is_name" :: "is_within" :: "is_one_of" :: "is_test" :: "is_line" :: "_law_program" :: "_law_pair" :: "_law_true" :: "_law_rests" :: "_law_followers" :: "_law_modulus" :: "_law_states" :: "_law_test" :: "_law_line" :: "_law_drawn" :: "_law_lines" :: "_law_bag" :: "law" :: "Runner" :: "CountingRunner" :: "PathError" :: "NothingLeft" :: "Ended" :: "Program" :: "Missing" :: "VARIABLES" :: "ORDERS" :: "MODULI" :: "AXES" :: []
def frees : List Str := "int" :: "len" :: "isinstance" :: "str" :: "bool" :: "tuple" :: "list" :: "all" :: "zip" :: "enumerate" :: "max" :: "dict" :: "range" :: "super" :: []
def fmore : List He.Fa := (.cls "Runner") :: (.cls "CountingRunner") :: (.meth "CountingRunner" "counts") :: (.meth "CountingRunner" "back") :: (.meth "Runner" "back") :: (.meth "Runner" "step") :: (.meth "CountingRunner" "step") :: (.mkr "Runner") :: (.mkr "CountingRunner") :: (.cls "Program") :: (.meth "Program" "lines") :: (.mkr "Program") :: (.int "MOST_VALUE" (3)) :: (.int "MOST_NAME" (8)) :: (.noat "Runner" "state") :: (.noat "Runner" "past") :: (.noat "CountingRunner" "done") :: (.noat "Program" "rows") :: (.noat "CountingRunner" "source") :: (.noat "CountingRunner" "rows") :: (.noat "CountingRunner" "state") :: (.noat "CountingRunner" "past") :: (.noat "Runner" "source") :: (.noat "Runner" "rows") :: []
def fal : List He.Fa := glos.map .glo ++ frees.map .free ++ fmore
def exl : List (PySem.W.Frag → Bool) := (fun K => He.tupB K "VARIABLES" [(.str "a"), (.str "b"), (.str "c")]) :: (fun K => He.tupB K "ORDERS" [(.str "less"), (.str "equal"), (.str "more")]) :: (fun K => He.tupB K "MODULI" [(.int 2), (.int 3)]) :: (fun K => He.tupB K "AXES" [(.str "x"), (.str "y")]) :: (fun K => tupN K "VARIABLES") :: (fun K => tupN K "ORDERS") :: (fun K => tupN K "MODULI") :: (fun K => tupN K "AXES") :: (fun K => propB K (He.ga K "Runner") "outcome") :: (fun K => propB K (He.ga K "Runner") "at") :: (fun K => propB K (He.ga K "Runner") "pair") :: (fun K => propB K (He.ga K "CountingRunner") "steps") :: (fun K => psameB K (He.ga K "CountingRunner") (He.ga K "Runner") "steps") :: (fun K => propB K (He.ga K "CountingRunner") "outcome") :: (fun K => psameB K (He.ga K "CountingRunner") (He.ga K "Runner") "outcome") :: (fun K => propB K (He.ga K "CountingRunner") "at") :: (fun K => psameB K (He.ga K "CountingRunner") (He.ga K "Runner") "at") :: (fun K => propB K (He.ga K "CountingRunner") "pair") :: (fun K => psameB K (He.ga K "CountingRunner") (He.ga K "Runner") "pair") :: (fun K => insB K (He.ga K "Runner")) :: (fun K => decide (PySem.W.kitOne K (.ref (He.ga K "Runner")) (.ref (He.ga K "CountingRunner")) = some false)) :: (fun K => insB K (He.ga K "CountingRunner")) :: (fun K => decide (PySem.W.kitOne K (.ref (He.ga K "CountingRunner")) (.ref (He.ga K "Runner")) = some true)) :: (fun K => He.eqO (PySem.W.findIn K (.ref (He.ga K "Ended")) "name") (some none)) :: (fun K => creadB K (He.ga K "Program")) :: (fun K => cintB K (He.ga K "Program") "MAX_LINES" (60)) :: (fun K => decide (PySem.W.exmOne K (.ref (He.ga K "NothingLeft")) (.ref (He.ga K "NothingLeft")) = some true)) :: (fun K => decide (PySem.W.exmOne K (.ref (He.ga K "NothingLeft")) (.ref (He.ga K "PathError")) = some false)) :: (fun K => decide (PySem.W.exmOne K (.ref (He.ga K "NothingLeft")) (.ref (He.ga K "Missing")) = some false)) :: (fun K => xfB K (He.ga K "NothingLeft")) :: (fun K => He.eqO (PySem.W.findIn K (.ref (He.ga K "NothingLeft")) "tag") (some none)) :: []
def exf (K : PySem.W.Frag) : Bool := exl.all fun f => f K
abbrev En := Env fal fnl fna exf
theorem En.fx {K : PySem.W.Frag} {mg : Str → Option Value} (E : En K mg) (i : Nat) {f : PySem.W.Frag → Bool} (h : exl[i]? = some f := by rfl) : f K = true := List.all_eq_true.mp E.more f (List.mem_of_getElem? h)
theorem ty_VARIABLES {K : PySem.W.Frag} {mg : Str → Option Value} (E : En K mg) (H : Hp) : tyV K "tuple" (.ref (He.ga K "VARIABLES")) H := tupN_ok (E.fx 4) H
theorem at_VARIABLES {K : PySem.W.Frag} {mg : Str → Option Value} (E : En K mg) (H : Hp) : SqT K H (He.ga K "VARIABLES") (([(.str "a"), (.str "b"), (.str "c")] : List He.Dv).map (He.Dv.v K)) := He.tupB_ok (E.fx 0) H
theorem ty_ORDERS {K : PySem.W.Frag} {mg : Str → Option Value} (E : En K mg) (H : Hp) : tyV K "tuple" (.ref (He.ga K "ORDERS")) H := tupN_ok (E.fx 5) H
theorem at_ORDERS {K : PySem.W.Frag} {mg : Str → Option Value} (E : En K mg) (H : Hp) : SqT K H (He.ga K "ORDERS") (([(.str "less"), (.str "equal"), (.str "more")] : List He.Dv).map (He.Dv.v K)) := He.tupB_ok (E.fx 1) H
theorem ty_MODULI {K : PySem.W.Frag} {mg : Str → Option Value} (E : En K mg) (H : Hp) : tyV K "tuple" (.ref (He.ga K "MODULI")) H := tupN_ok (E.fx 6) H
theorem at_MODULI {K : PySem.W.Frag} {mg : Str → Option Value} (E : En K mg) (H : Hp) : SqT K H (He.ga K "MODULI") (([(.int 2), (.int 3)] : List He.Dv).map (He.Dv.v K)) := He.tupB_ok (E.fx 2) H
theorem ty_AXES {K : PySem.W.Frag} {mg : Str → Option Value} (E : En K mg) (H : Hp) : tyV K "tuple" (.ref (He.ga K "AXES")) H := tupN_ok (E.fx 7) H
theorem at_AXES {K : PySem.W.Frag} {mg : Str → Option Value} (E : En K mg) (H : Hp) : SqT K H (He.ga K "AXES") (([(.str "x"), (.str "y")] : List He.Dv).map (He.Dv.v K)) := He.tupB_ok (E.fx 3) H
theorem in_glos {x : Str} (h : x ∈ glos) : He.Fa.glo x ∈ fal := List.mem_append_left _ (List.mem_append_left _ (List.mem_map_of_mem h))
theorem in_frees {x : Str} (h : x ∈ frees) : He.Fa.free x ∈ fal := List.mem_append_left _ (List.mem_append_right _ (List.mem_map_of_mem h))
theorem En.gl {K : PySem.W.Frag} {mg : Str → Option Value} (E : En K mg) (x : Str) (h : x ∈ glos := by decide +kernel) : mg x = some (.ref (He.ga K x)) := Env.glo E x (in_glos h)
theorem En.fr {K : PySem.W.Frag} {mg : Str → Option Value} (E : En K mg) (x : Str) (h : x ∈ frees := by decide +kernel) : mg x = none := Env.free E x (in_frees h)
theorem En.cls_Runner {K : PySem.W.Frag} {mg : Str → Option Value} (E : En K mg) : Cls K (He.ga K "Runner") := He.cls_ok (Env.ok E (f := (.cls "Runner")) (List.mem_append_right _ (List.mem_of_getElem? (i := 0) rfl)))
theorem En.cls_CountingRunner {K : PySem.W.Frag} {mg : Str → Option Value} (E : En K mg) : Cls K (He.ga K "CountingRunner") := He.cls_ok (Env.ok E (f := (.cls "CountingRunner")) (List.mem_append_right _ (List.mem_of_getElem? (i := 1) rfl)))
theorem En.meth_CountingRunner_counts {K : PySem.W.Frag} {mg : Str → Option Value} (E : En K mg) : Meth K (He.ga K "CountingRunner") "counts" (He.ma K (He.ga K "CountingRunner") "counts") := He.meth_ok (Env.ok E (f := (.meth "CountingRunner" "counts")) (List.mem_append_right _ (List.mem_of_getElem? (i := 2) rfl)))
theorem En.meth_CountingRunner_back {K : PySem.W.Frag} {mg : Str → Option Value} (E : En K mg) : Meth K (He.ga K "CountingRunner") "back" (He.ma K (He.ga K "CountingRunner") "back") := He.meth_ok (Env.ok E (f := (.meth "CountingRunner" "back")) (List.mem_append_right _ (List.mem_of_getElem? (i := 3) rfl)))
theorem En.meth_Runner_back {K : PySem.W.Frag} {mg : Str → Option Value} (E : En K mg) : Meth K (He.ga K "Runner") "back" (He.ma K (He.ga K "Runner") "back") := He.meth_ok (Env.ok E (f := (.meth "Runner" "back")) (List.mem_append_right _ (List.mem_of_getElem? (i := 4) rfl)))
theorem En.meth_Runner_step {K : PySem.W.Frag} {mg : Str → Option Value} (E : En K mg) : Meth K (He.ga K "Runner") "step" (He.ma K (He.ga K "Runner") "step") := He.meth_ok (Env.ok E (f := (.meth "Runner" "step")) (List.mem_append_right _ (List.mem_of_getElem? (i := 5) rfl)))
theorem En.meth_CountingRunner_step {K : PySem.W.Frag} {mg : Str → Option Value} (E : En K mg) : Meth K (He.ga K "CountingRunner") "step" (He.ma K (He.ga K "CountingRunner") "step") := He.meth_ok (Env.ok E (f := (.meth "CountingRunner" "step")) (List.mem_append_right _ (List.mem_of_getElem? (i := 6) rfl)))
theorem En.mkr_Runner {K : PySem.W.Frag} {mg : Str → Option Value} (E : En K mg) : Mk K (He.ga K "Runner") (He.ma K (He.ga K "Runner") "__init__") := He.mkr_ok (Env.ok E (f := (.mkr "Runner")) (List.mem_append_right _ (List.mem_of_getElem? (i := 7) rfl)))
theorem En.mkr_CountingRunner {K : PySem.W.Frag} {mg : Str → Option Value} (E : En K mg) : Mk K (He.ga K "CountingRunner") (He.ma K (He.ga K "CountingRunner") "__init__") := He.mkr_ok (Env.ok E (f := (.mkr "CountingRunner")) (List.mem_append_right _ (List.mem_of_getElem? (i := 8) rfl)))
theorem En.cls_Program {K : PySem.W.Frag} {mg : Str → Option Value} (E : En K mg) : Cls K (He.ga K "Program") := He.cls_ok (Env.ok E (f := (.cls "Program")) (List.mem_append_right _ (List.mem_of_getElem? (i := 9) rfl)))
theorem En.meth_Program_lines {K : PySem.W.Frag} {mg : Str → Option Value} (E : En K mg) : Meth K (He.ga K "Program") "lines" (He.ma K (He.ga K "Program") "lines") := He.meth_ok (Env.ok E (f := (.meth "Program" "lines")) (List.mem_append_right _ (List.mem_of_getElem? (i := 10) rfl)))
theorem En.mkr_Program {K : PySem.W.Frag} {mg : Str → Option Value} (E : En K mg) : Mk K (He.ga K "Program") (He.ma K (He.ga K "Program") "__init__") := He.mkr_ok (Env.ok E (f := (.mkr "Program")) (List.mem_append_right _ (List.mem_of_getElem? (i := 11) rfl)))
theorem En.int_MOST_VALUE {K : PySem.W.Frag} {mg : Str → Option Value} (E : En K mg) : ∃ t, mg "MOST_VALUE" = some (.int (3) t) := Env.intc E (List.mem_append_right _ (List.mem_of_getElem? (i := 12) rfl))
theorem En.int_MOST_NAME {K : PySem.W.Frag} {mg : Str → Option Value} (E : En K mg) : ∃ t, mg "MOST_NAME" = some (.int (8) t) := Env.intc E (List.mem_append_right _ (List.mem_of_getElem? (i := 13) rfl))
theorem En.noat_Runner_state {K : PySem.W.Frag} {mg : Str → Option Value} (E : En K mg) : NoAttr K (He.ga K "Runner") "state" := He.noat_ok (Env.ok E (f := (.noat "Runner" "state")) (List.mem_append_right _ (List.mem_of_getElem? (i := 14) rfl)))
theorem En.noat_Runner_past {K : PySem.W.Frag} {mg : Str → Option Value} (E : En K mg) : NoAttr K (He.ga K "Runner") "past" := He.noat_ok (Env.ok E (f := (.noat "Runner" "past")) (List.mem_append_right _ (List.mem_of_getElem? (i := 15) rfl)))
theorem En.noat_CountingRunner_done {K : PySem.W.Frag} {mg : Str → Option Value} (E : En K mg) : NoAttr K (He.ga K "CountingRunner") "done" := He.noat_ok (Env.ok E (f := (.noat "CountingRunner" "done")) (List.mem_append_right _ (List.mem_of_getElem? (i := 16) rfl)))
theorem En.noat_Program_rows {K : PySem.W.Frag} {mg : Str → Option Value} (E : En K mg) : NoAttr K (He.ga K "Program") "rows" := He.noat_ok (Env.ok E (f := (.noat "Program" "rows")) (List.mem_append_right _ (List.mem_of_getElem? (i := 17) rfl)))
theorem En.noat_CountingRunner_source {K : PySem.W.Frag} {mg : Str → Option Value} (E : En K mg) : NoAttr K (He.ga K "CountingRunner") "source" := He.noat_ok (Env.ok E (f := (.noat "CountingRunner" "source")) (List.mem_append_right _ (List.mem_of_getElem? (i := 18) rfl)))
theorem En.noat_CountingRunner_rows {K : PySem.W.Frag} {mg : Str → Option Value} (E : En K mg) : NoAttr K (He.ga K "CountingRunner") "rows" := He.noat_ok (Env.ok E (f := (.noat "CountingRunner" "rows")) (List.mem_append_right _ (List.mem_of_getElem? (i := 19) rfl)))
theorem En.noat_CountingRunner_state {K : PySem.W.Frag} {mg : Str → Option Value} (E : En K mg) : NoAttr K (He.ga K "CountingRunner") "state" := He.noat_ok (Env.ok E (f := (.noat "CountingRunner" "state")) (List.mem_append_right _ (List.mem_of_getElem? (i := 20) rfl)))
theorem En.noat_CountingRunner_past {K : PySem.W.Frag} {mg : Str → Option Value} (E : En K mg) : NoAttr K (He.ga K "CountingRunner") "past" := He.noat_ok (Env.ok E (f := (.noat "CountingRunner" "past")) (List.mem_append_right _ (List.mem_of_getElem? (i := 21) rfl)))
theorem En.noat_Runner_source {K : PySem.W.Frag} {mg : Str → Option Value} (E : En K mg) : NoAttr K (He.ga K "Runner") "source" := He.noat_ok (Env.ok E (f := (.noat "Runner" "source")) (List.mem_append_right _ (List.mem_of_getElem? (i := 22) rfl)))
theorem En.noat_Runner_rows {K : PySem.W.Frag} {mg : Str → Option Value} (E : En K mg) : NoAttr K (He.ga K "Runner") "rows" := He.noat_ok (Env.ok E (f := (.noat "Runner" "rows")) (List.mem_append_right _ (List.mem_of_getElem? (i := 23) rfl)))
theorem En.prop_Runner_outcome {K : PySem.W.Frag} {mg : Str → Option Value} (E : En K mg) : PropOf K (He.ga K "Runner") "outcome" (He.ma K (He.ga K "Runner") "outcome") (He5.wf K (He.ga K "Runner") "property" "outcome") := propB_ok (E.fx 8)
theorem En.prop_Runner_at {K : PySem.W.Frag} {mg : Str → Option Value} (E : En K mg) : PropOf K (He.ga K "Runner") "at" (He.ma K (He.ga K "Runner") "at") (He5.wf K (He.ga K "Runner") "property" "at") := propB_ok (E.fx 9)
theorem En.prop_Runner_pair {K : PySem.W.Frag} {mg : Str → Option Value} (E : En K mg) : PropOf K (He.ga K "Runner") "pair" (He.ma K (He.ga K "Runner") "pair") (He5.wf K (He.ga K "Runner") "property" "pair") := propB_ok (E.fx 10)
theorem En.prop_CountingRunner_steps {K : PySem.W.Frag} {mg : Str → Option Value} (E : En K mg) : PropOf K (He.ga K "CountingRunner") "steps" (He.ma K (He.ga K "CountingRunner") "steps") (He5.wf K (He.ga K "CountingRunner") "property" "steps") := propB_ok (E.fx 11)
theorem En.psame_CountingRunner_Runner_steps {K : PySem.W.Frag} {mg : Str → Option Value} (E : En K mg) : PSame K (He.ga K "CountingRunner") (He.ga K "Runner") "steps" := psameB_ok (E.fx 12)
theorem En.prop_CountingRunner_outcome {K : PySem.W.Frag} {mg : Str → Option Value} (E : En K mg) : PropOf K (He.ga K "CountingRunner") "outcome" (He.ma K (He.ga K "CountingRunner") "outcome") (He5.wf K (He.ga K "CountingRunner") "property" "outcome") := propB_ok (E.fx 13)
theorem En.psame_CountingRunner_Runner_outcome {K : PySem.W.Frag} {mg : Str → Option Value} (E : En K mg) : PSame K (He.ga K "CountingRunner") (He.ga K "Runner") "outcome" := psameB_ok (E.fx 14)
theorem En.prop_CountingRunner_at {K : PySem.W.Frag} {mg : Str → Option Value} (E : En K mg) : PropOf K (He.ga K "CountingRunner") "at" (He.ma K (He.ga K "CountingRunner") "at") (He5.wf K (He.ga K "CountingRunner") "property" "at") := propB_ok (E.fx 15)
theorem En.psame_CountingRunner_Runner_at {K : PySem.W.Frag} {mg : Str → Option Value} (E : En K mg) : PSame K (He.ga K "CountingRunner") (He.ga K "Runner") "at" := psameB_ok (E.fx 16)
theorem En.prop_CountingRunner_pair {K : PySem.W.Frag} {mg : Str → Option Value} (E : En K mg) : PropOf K (He.ga K "CountingRunner") "pair" (He.ma K (He.ga K "CountingRunner") "pair") (He5.wf K (He.ga K "CountingRunner") "property" "pair") := propB_ok (E.fx 17)
theorem En.psame_CountingRunner_Runner_pair {K : PySem.W.Frag} {mg : Str → Option Value} (E : En K mg) : PSame K (He.ga K "CountingRunner") (He.ga K "Runner") "pair" := psameB_ok (E.fx 18)
theorem En.ins_Runner {K : PySem.W.Frag} {mg : Str → Option Value} (E : En K mg) : C8.InsC K (He.ga K "Runner") := insB_ok (En.cls_Runner E) (E.fx 19)
theorem En.isn_Runner_CountingRunner {K : PySem.W.Frag} {mg : Str → Option Value} (E : En K mg) : PySem.W.kitOne K (.ref (He.ga K "Runner")) (.ref (He.ga K "CountingRunner")) = some false := of_decide_eq_true (E.fx 20)
theorem En.ins_CountingRunner {K : PySem.W.Frag} {mg : Str → Option Value} (E : En K mg) : C8.InsC K (He.ga K "CountingRunner") := insB_ok (En.cls_CountingRunner E) (E.fx 21)
theorem En.isk_CountingRunner_Runner {K : PySem.W.Frag} {mg : Str → Option Value} (E : En K mg) : PySem.W.kitOne K (.ref (He.ga K "CountingRunner")) (.ref (He.ga K "Runner")) = some true := of_decide_eq_true (E.fx 22)
theorem En.xno_Ended_name {K : PySem.W.Frag} {mg : Str → Option Value} (E : En K mg) : PySem.W.findIn K (.ref (He.ga K "Ended")) "name" = some none := He.eqO_ok (E.fx 23)
theorem En.cread_Program {K : PySem.W.Frag} {mg : Str → Option Value} (E : En K mg) : ClX.CRead K (He.ga K "Program") (.type "type") := creadB_ok (E.fx 24)
theorem En.cint_Program_MAX_LINES {K : PySem.W.Frag} {mg : Str → Option Value} (E : En K mg) : ∃ t, ClX.CVal K (He.ga K "Program") (.type "type") "MAX_LINES" (.int (60)) (.int (60) t) := cintB_ok (E.fx 25)
theorem En.exm_NothingLeft_NothingLeft {K : PySem.W.Frag} {mg : Str → Option Value} (E : En K mg) : PySem.W.exmOne K (.ref (He.ga K "NothingLeft")) (.ref (He.ga K "NothingLeft")) = some true := of_decide_eq_true (E.fx 26)
theorem En.exn_NothingLeft_PathError {K : PySem.W.Frag} {mg : Str → Option Value} (E : En K mg) : PySem.W.exmOne K (.ref (He.ga K "NothingLeft")) (.ref (He.ga K "PathError")) = some false := of_decide_eq_true (E.fx 27)
theorem En.exn_NothingLeft_Missing {K : PySem.W.Frag} {mg : Str → Option Value} (E : En K mg) : PySem.W.exmOne K (.ref (He.ga K "NothingLeft")) (.ref (He.ga K "Missing")) = some false := of_decide_eq_true (E.fx 28)
theorem En.xf_NothingLeft {K : PySem.W.Frag} {mg : Str → Option Value} (E : En K mg) : XfC K (He.ga K "NothingLeft") := xfB_ok (E.fx 29)
theorem En.xno_NothingLeft_tag {K : PySem.W.Frag} {mg : Str → Option Value} (E : En K mg) : PySem.W.findIn K (.ref (He.ga K "NothingLeft")) "tag" = some none := He.eqO_ok (E.fx 30)

abbrev Rw : PySem.W.OpenRow := PySem.W.OpenLaw.row PySem.Challenge.rw_addpath_k19_counted_runs
def AS : List Addr := [3, 6, 4, 21, 31, 44, 66, 87, 108, 129, 150, 160, 167, 174, 175, 176, 177, 178, 183, 190, 197, 204, 211, 303, 314, 319, 326, 411, 465, 472, 479, 486, 491, 498, 505, 512, 519, 526, 533, 540, 547, 554, 561, 568, 573, 578, 583, 0, 20, 30, 43, 65, 86, 107, 128, 149, 159, 166, 173, 182, 189, 196, 203, 210, 302, 313, 318, 325, 410, 464, 471, 478, 485, 490, 497, 504, 511, 518, 525, 532, 539, 546, 553, 560, 567, 572, 577, 582, 15, 16, 17, 18, 19, 29, 32, 42, 45, 63, 64, 84, 85, 105, 106, 126, 127, 147, 148, 151, 154, 155, 156, 157, 158, 161, 162, 163, 164, 165, 168, 169, 170, 171, 172, 179, 180, 181, 184, 185, 186, 187, 188, 191, 192, 193, 194, 195, 198, 199, 200, 201, 202, 205, 206, 207, 208, 209, 225, 234, 242, 249, 256, 264, 272, 279, 286, 293, 300, 301, 304, 305, 308, 309, 310, 311, 312, 315, 316, 317, 320, 321, 322, 323, 324, 340, 348, 356, 364, 372, 379, 387, 394, 401, 408, 409, 412, 413, 431, 440, 448, 455, 462, 463, 468, 469, 470, 473, 474, 475, 476, 477, 480, 481, 482, 483, 484, 487, 488, 489, 492, 493, 494, 495, 496, 499, 500, 501, 502, 503, 506, 507, 508, 509, 510, 513, 514, 515, 516, 517, 520, 521, 522, 523, 524, 527, 528, 529, 530, 531, 534, 535, 536, 537, 538, 541, 542, 543, 544, 545, 548, 549, 550, 551, 552, 555, 556, 557, 558, 559, 562, 563, 564, 565, 566, 569, 570, 571, 574, 575, 576, 579, 580, 581, 62, 51, 83, 72, 104, 93, 125, 114, 146, 135, 224, 232, 233, 241, 248, 255, 263, 271, 278, 285, 292, 299, 339, 347, 355, 363, 371, 378, 386, 380, 393, 400, 407, 430, 419, 439, 432, 447, 454, 461, 57, 58, 59, 60, 61, 78, 79, 80, 81, 82, 99, 100, 101, 102, 103, 120, 121, 122, 123, 124, 141, 142, 143, 144, 145, 219, 220, 221, 222, 223, 231, 235, 236, 237, 238, 239, 240, 243, 244, 245, 246, 247, 250, 251, 252, 253, 254, 262, 270, 273, 274, 275, 276, 277, 280, 281, 282, 283, 284, 287, 288, 289, 290, 291, 294, 295, 296, 297, 298, 334, 335, 336, 337, 338, 346, 354, 362, 370, 373, 374, 375, 376, 377, 381, 382, 383, 384, 385, 388, 389, 390, 391, 392, 395, 396, 397, 398, 399, 402, 403, 404, 405, 406, 425, 426, 427, 428, 429, 434, 435, 436, 437, 438, 442, 443, 444, 445, 446, 449, 450, 451, 452, 453, 456, 457, 458, 459, 460, 226, 227, 228, 229, 230, 257, 258, 259, 260, 261, 265, 266, 267, 268, 269, 341, 342, 343, 344, 345, 349, 350, 351, 352, 353, 357, 358, 359, 360, 361, 365, 366, 367, 368, 369, 2, 51, 72, 93, 114, 135, 419, 419, 419]
abbrev hk : PySem.W.Hook := hookL AS fal fnl fna fns [("law", none)] exf
def ob (s : PySem.W.SharedT) : AlW := obsL AS fal fnl fna fns [("law", none)] exf (HandSHeadRun.getT s)
theorem ob_eq (s : PySem.W.SharedT) : ob s = hk.obs s.abs := obsL_eq (HandSHeadRun.getT_eq s)
def loose : List Str := "_wall" :: "PathError" :: "Missing" :: "InvalidPair" :: "InvalidProgram" :: "InvalidCount" :: "Ended" :: "NothingLeft" :: "is_number" :: "is_pair" :: "need_pair" :: "AXES" :: "VARIABLES" :: "ORDERS" :: "MODULI" :: "MOST_VALUE" :: "MOST_NAME" :: "is_name" :: "is_one_of" :: "is_within" :: "is_test" :: "is_line" :: "Program" :: "moved" :: "is_true" :: "changed" :: "Runner" :: "CountingRunner" :: "behind" :: "_law_bag" :: "_law_pull" :: "_law_same" :: "_law_field" :: "_law_try" :: "_law_pair" :: "_law_test" :: "_law_line" :: "_law_drawn" :: "_law_lines" :: "_law_program" :: "_law_true" :: "_law_modulus" :: "_law_rests" :: "_law_followers" :: "_law_states" :: []
-- the run's equation in three parts: the kernel holds less at once
abbrev viewQ : Program := PySem.W.view Rw.prog [51]
noncomputable abbrev endQ' (w : World) (os : OsState) : Option PySem.W.SharedT := HandSHeadRun.endF (HandSHeadRun.stepQ (HandSHeadRun.denQ HandSHeadRun.tabQ) Rw.prog w) 20000 Rw.prog w os
theorem run_l (w : World) (os : OsState) : (endQ' w os).map (fun s => HandSHeadRun.looksF Rw.prog (PySem.W.boot_heap w.params) s.abs) = some true := by kernel_rfl
theorem run_s (w : World) (os : OsState) : (endQ' w os).map (fun s => HandSHeadRun.seenQ viewQ loose (PySem.importedModules Rw.prog.main.body) (fun s => PySem.W.xlAt viewQ [] s && PySem.W.recOk Rw.toRowW.records s) s.abs) = some (PySem.W.openGood viewQ loose) := by kernel_rfl
theorem run_o (w : World) (os : OsState) : (endQ' w os).map (fun s => ob s) = some (hk.val w) := by kernel_rfl
theorem map_three {α β γ δ : Type} {o : Option α} {f : α → β} {g : α → γ} {h : α → δ} {a : β} {b : γ} {c : δ} (e1 : o.map f = some a) (e2 : o.map g = some b) (e3 : o.map h = some c) : o.map (fun s => (f s, g s, h s)) = some (a, b, c) := by
  cases o with
  | none => cases e1
  | some x => exact congrArg some (Prod.ext (Option.some.inj e1) (Prod.ext (Option.some.inj e2) (Option.some.inj e3)))
theorem run (w : World) : HandSHeadRun.RunEq Rw viewQ hk ob 20000 loose w := fun os => map_three (run_l w os) (run_s w os) (run_o w os)

end Lw
-- needs hookW
-- imports HandS.TryMany HandS.HotCalls
/-! try: .. except X as e: .. (the first of several clauses; it is X's), the exception told in the heap; defs called there -/
namespace Bx
open PySem PySem.Spec PyProof.Rows L2
/-- a caught exception at a: its class, its dict -/
def excT (a : Addr) (cls : Value) (d : Option Addr) : HO := .ext fun h => ∃ o vs, h.get? a = some o ∧ Zc cls d o ∧ o.data = .fields vs
theorem excT_ne {a : Addr} {cls : Value} {d : Option Addr} : (∀ x, excT a cls d ≠ .own x) ∧ (∀ x, excT a cls d ≠ .tup x) ∧ (∀ o u, excT a cls d ≠ .frz o u) ∧ (∀ p, excT a cls d ≠ .tbl p) ∧ ∀ x, excT a cls d ≠ .lst x :=
  ⟨(fun x z => by unfold excT at z; cases z), (fun x z => by unfold excT at z; cases z), (fun o u z => by unfold excT at z; cases z), (fun p z => by unfold excT at z; cases z), (fun p z => by unfold excT at z; cases z)⟩
section
variable {X : Cx} {pins : List (Addr × Obj)} {σ : L2.St} {H : Hp} {s : Shared}
/-- a fresh record is told from now on -/
theorem Inv.told {a : Addr} {cls : Value} {d : Option Addr} {o : Obj} {vs : Array Value} (I : Inv X pins σ H s) (ha : s.heap.get? a = some o) (hz : Zc cls d o) (hd : o.data = .fields vs) (na : H a = none) (n0 : X.s_0.heap.get? a = none) (nL : a ≠ X.env.locals) (np : ∀ p ∈ X.pn ++ pins, p.1 ≠ a) :
    Inv X pins σ (upd H a (excT a cls d)) s := by
  have ne : ∀ {b : Addr} {u : HO}, H b = some u → b ≠ a := fun e => ne_of_none e na
  refine ⟨I.ok, I.os, I.bare, ⟨I.base.keep, I.base.slot, fun b u e n x => ?_, I.base.there, fun b u e => ?_, fun b u v e => ?_, fun b u e => ?_⟩, I.loc, I.cell, ?_, fun x c e => ?_, fun p hp => ?_, fun b u e => ?_, I.len⟩
  · rw [upd_ne (fun z => by rw [z, n0] at e; cases e)]
    exact I.base.free b u e n x
  · have := I.base.tups b u e
    rw [upd_ne (ne this)]; exact this
  · have := I.base.frzs b u v e
    rw [upd_ne (ne this)]; exact this
  · obtain ⟨more, h⟩ := I.base.tbls b u e
    exact ⟨more, by rw [upd_ne (ne h)]; exact h⟩
  · rw [upd_ne nL.symm]; exact I.free
  · have nc : c ≠ a := fun z => by
      obtain ⟨v, oc, ho, hv⟩ := I.cell x c e
      rw [z, ha] at ho
      cases ho
      rw [hd] at hv
      cases hv
    rw [upd_ne nc]; exact I.freeC x c e
  · obtain ⟨h1, h2, h3⟩ := I.pin p hp
    exact ⟨h1, by rw [upd_ne (np p hp)]; exact h2, h3⟩
  · by_cases hb : b = a
    · subst hb
      rw [upd_same] at e
      cases e
      exact ⟨⟨o, vs, ha, hz, hd⟩, ⟨o, ha⟩, fun h1 h2 ⟨o', vs', q1, q2, q3⟩ k => ⟨o', vs', k _ q1, q2, q3⟩⟩
    · rw [upd_ne hb] at e
      exact (I.hok b u e).stay (fun _ _ _ q => q) (fun c hc => by rw [upd_ne (ne hc)]; exact hc) fun c xs hc => by rw [upd_ne (ne hc)]; exact hc
theorem excT_at {a : Addr} {cls : Value} {d : Option Addr} (I : Inv X pins σ H s) (e : H a = some (excT a cls d)) : ∃ o vs, s.heap.get? a = some o ∧ Zc cls d o ∧ o.data = .fields vs := by
  have x : ObjOk X.prog X.w H s.heap a (.ext fun h => ∃ o vs, h.get? a = some o ∧ Zc cls d o ∧ o.data = .fields vs) := I.hok a _ e
  exact x.1
end
/-- e.f, e a caught exception -/
def tXT (K : PySem.W.Frag) (f : Str) (te : TE) : TE := fun σ H Q => te σ H fun x H1 => ∃ (a C dd : Addr) (fs : List (Str × V)) (v : V), x = .ref a ∧ H1 a = some (excT a (.ref C) (some dd)) ∧ XfC K C ∧ PySem.W.findIn K (.ref C) f = some none ∧ H1 dd = some (.xd fs) ∧ fs.lookup f = some v ∧ Q v H1
theorem pe_xT {X : Cx} {e : Expr} {te : TE} {pos : Pos} {n : Str} (he : PE X e te) (hb : attributeBase e n X.env (eval e X.env) = eval e X.env := by rfl) : PE X (.Attribute e n pos) (tXT X.K n te) := by
  refine ⟨fun pins s σ H Q I h => ?_⟩
  refine attr_of hb (thn (he.run pins s σ H _ I h) fun u s1 hh => ?_)
  obtain ⟨x, H1, I1, rx, a, C, dd, fs, v, rfl, ha, T, hno, hdd, l, q⟩ := hh
  obtain rfl : u = Value.ref a := rx
  obtain ⟨o, vs, ho, hz, hd⟩ := excT_at I1 ha
  have hx : ObjOk X.prog X.w H1 s1.heap dd (.xd fs) := I1.hok dd _ hdd
  obtain ⟨mA, hns, hr⟩ := hx
  obtain ⟨od, hod, hl⟩ := lookIn_ns hns
  obtain ⟨u, hu, ru⟩ := RelO.some_of (v := v) (o := mA n) (by rw [← l]; exact hr n)
  have J : PySem.W.InstAt s1.heap a o C (some od) := ⟨ho, hz.1, by unfold PySem.W.notCls; rw [hd] <;> rfl, by rw [hz.2]; exact hod⟩
  exact HandSPX.exc_get I1.kIn J T.ga T.gg T.exC (PySem.W.findObj_own T.hdC hno rfl (by rw [hl, hu])) (handed_of ru) ⟨v, H1, I1.tok _, ru, q⟩
/-- what 'except X as n', the first clause, wishes -/
def wAs1 (nl : Nat) (K : PySem.W.Frag) (c : Value) (i : Nat) (ts : TS) (D : Ends) : WX := fun cls d σ H => PySem.W.exmOne K cls c = some true ∧ ∀ a, H a = none → σ.length = nl → ts { nx := fun σ' H' => D.nx (σ'.set i none) H', rt := D.rt, bk := fun σ' H' => D.bk (σ'.set i none) H', ct := fun σ' H' => D.ct (σ'.set i none) H' } (σ.set i (some (.ref a))) (upd H a (excT a cls d))
/-- the context of the suite -/
abbrev suiteX (X : Cx) (a : Addr) (pn : List (Addr × Obj)) : Cx := { X with A := X.A.mark (some (.ref a)), calm := false, pn := pn, xe := fun _ _ => False }
section
variable {X : Cx} {x n : Str} {c : Value} {i : Nat} {body suite : List Stmt} {b₀ : Stmt} {np pos pos' : Pos} {hds : List ExceptHandler} {tb : WX → TS} {ts : TS}
theorem ps_try_as1 (hex : X.ex = []) (hs : X.stack = X.env :: X.outer) (hf : X.env.frame = some X.env.locals) (hN : X.N.Nodup) (hi : X.N[i]? = some n) (hln : X.env.kindOf n = some .local) (hc : Names X x c)
    (hb : ∀ (W : WX) (pn : List (Addr × Obj)) (xe : Value → Shared → Prop), Takes (X.tr pn xe) W → PassesOwn (model X.prog X.w) X.A X.env xe → PSs (X.tr pn xe) body (tb W))
    (hsu : ∀ (a : Addr) (pn : List (Addr × Obj)), PSs (suiteX X a pn) (b₀ :: suite) ts) :
    PS X (.Try body (.ExceptHandler (some (.Name x np)) (some n) (b₀ :: suite) pos' :: hds) [] [] pos) (fun D σ H => tb (wAs1 X.N.length X.K c i ts D) D σ H) := by
  refine ⟨fun pins s σ H D I h => ?_⟩
  have ok := I.ok
  have frm : X.A.frames = some (X.env :: X.outer) := by rw [ok.frames, hs]
  refine wpAny_Try_except ?_
  have run := (hb (wAs1 X.N.length X.K c i ts D) (X.pn ++ pins) (fun e s₁ => wpAny (model X.prog X.w) X.A (noteFrame e X.env) (fun _ s₂ => wpAny (model X.prog X.w) X.A (setFlight e none) (fun _ s₃ =>
    wpAny (model X.prog X.w) X.A (handleBy e X.env (.ExceptHandler (some (.Name x np)) (some n) (b₀ :: suite) pos' :: hds)) (SP X pins D) X.xe s₃) X.xe s₂) X.xe s₁) (fun u s' xx => ?_) PassesOwn.looking).run [] s σ H D (I.toTry _) h
  · refine wpAny_mono run (fun f s1 hsp => ?_) fun _ _ z => z
    cases f with
    | next =>
      obtain ⟨σ', H', J', q⟩ := hsp
      exact wpAny_execs_nil ⟨σ', H', J'.ofTry ok, q⟩
    | brk =>
      obtain ⟨σ', H', J', q⟩ := hsp
      exact ⟨σ', H', J'.ofTry ok, q⟩
    | cont =>
      obtain ⟨σ', H', J', q⟩ := hsp
      exact ⟨σ', H', J'.ofTry ok, q⟩
    | ret u =>
      obtain ⟨v, σ', H', J', r, q⟩ := hsp
      exact ⟨v, σ', H', J'.ofTry ok, r, q⟩
  · obtain ⟨a, B, sI, pins', σ', H', cls, d, rfl, J', nb, up, sky, na, os, ag, hb1, hyes⟩ := xx
    have J : Inv X pins σ' H' sI := J'.ofTry ok
    have sky' : Sky B (X.env :: X.outer) a (Zc cls d) X.env.locals s'.heap := by rw [← hs]; exact sky
    have Bn : B.get? a = none := by
      rcases sky' with ⟨_, h, _⟩ | h | h
      · exact h
      · exact h.2.1
      · exact h.2.1
    show wpAny (model X.prog X.w) X.A (noteFrame (.ref a) X.env) _ _ _
    refine Sky.land Zc.steady frm hf sky' fun h3 fl3 up3 => ?_
    have J3 : Inv X pins σ' H' { s' with heap := h3 } := J.landed nb fl3.1 (up.trans up3) os ag
    obtain ⟨oe3, vs3, he3, hz3, hd3⟩ := fl3.there
    have notFr : ∀ {h : Heap} {o : Obj} {vs : Array Value}, h.FunFrames B (X.env :: X.outer) → h.get? a = some o → o.data = .fields vs → a ∉ frs (X.env :: X.outer) := fun {h o vs} ff e dd hm => by
      obtain ⟨_, o', e', hnf⟩ := ff.mem hm
      rw [e] at e'
      cases e'
      exact hnf _ dd
    have nfr := notFr fl3.2.2.1 he3 hd3
    have nfs : a ∉ frs X.stack := by rw [hs]; exact nfr
    have nI : ∀ o, sI.heap.get? a ≠ some o := fun o e => by
      have := nb a o e nfs
      rw [Bn] at this
      cases this
    have nL : a ≠ X.env.locals := fun z => nfr (List.mem_filterMap.mpr ⟨X.env, List.mem_cons_self, by rw [hf, z]⟩)
    have nF : a ∉ X.fs := fun hm => by
      obtain ⟨e, he, q⟩ := List.mem_filterMap.mp hm
      exact nfr (List.mem_filterMap.mpr ⟨e, List.mem_cons_of_mem _ he, q⟩)
    have n0 : X.s_0.heap.get? a = none := by
      cases q : X.s_0.heap.get? a with
      | none => rfl
      | some o =>
        obtain ⟨o', e'⟩ := J.base.there a o q (by rw [hex]; intro z; cases z)
        exact absurd e' (nI o')
    have npin : ∀ p ∈ X.pn ++ pins, p.1 ≠ a := fun p hp z => by
      have := (J.pin p hp).1
      rw [z] at this
      exact nI _ this
    have S3 := J3.suite he3 hd3 na nL nF
    refine wpAny_handleBy_cons (codeAny_handlers_test ?_) (by intro q; cases q)
    have LT : PySem.W.Looks (model X.prog X.w) h3 (typeOf (.ref a)) cls := fun A Q E s k q => wpAny_typeOf_ref (k _ _ he3) (by rw [hz3.1]; exact q)
    have LM := PySem.W.exm_one (M := model X.prog X.w) (J3.kIn) LT hb1
    have test : ∀ {Q : Value → Shared → Prop} {E : Value → Shared → Prop}, Q c { s' with heap := h3 } → wpAny (model X.prog X.w) (X.A.mark (some (.ref a))) (eval (.Name x np) X.env) Q E { s' with heap := h3 } := fun {Q E} q => by
      obtain ⟨hg, hdbg, hm | ⟨hm, hv, hnn⟩⟩ := hc
      · exact ld_glob (X := X.suite a ((a, oe3) :: (X.pn ++ pins))) S3 hg hm q hdbg
      · exact ld_blt (X := X.suite a ((a, oe3) :: (X.pn ++ pins))) S3 hg hm hv q hnn hdbg
    refine test (LM.here ?_)
    refine codeAny_handlers_suite_as ?_
    refine HandSPX.lands_againZ fl3 fun h4 fl4 up4 => ?_
    have J4 : Inv X pins σ' H' { s' with heap := h4 } := J.landed nb fl4.1 ((up.trans up3).trans up4) os ag
    obtain ⟨oe4, vs4, he4, hz4, hd4⟩ := fl4.there
    have T4 := Inv.told J4 he4 hz4 hd4 na n0 nL npin
    have S4 : Inv (suiteX X a (X.pn ++ pins)) [] σ' (upd H' a (excT a cls d)) { s' with heap := h4 } :=
      ⟨T4.ok.suite a _, T4.os, T4.bare, T4.base, T4.loc, T4.cell, T4.free, T4.freeC, fun p hp => T4.pin p (by rw [List.append_nil] at hp; exact hp), T4.hok, T4.len⟩
    refine store_ok (X := suiteX X a (X.pn ++ pins)) (v := .ref a) S4 hN hi (.inl hln) rfl (fun s5 S5 => ?_) (.inr hln)
    have back : ∀ {σ6 : L2.St} {H6 : Hp} {s6 : Shared}, Inv (suiteX X a (X.pn ++ pins)) [] σ6 H6 s6 → Inv X pins σ6 H6 s6 := fun S => ⟨ok, S.os, S.bare, S.base, S.loc, S.cell, S.free, S.freeC, fun p hp => S.pin p (List.mem_append_left _ hp), S.hok, S.len⟩
    refine wpAny_mono ((hsu a (X.pn ++ pins)).run [] s5 _ _ _ S5 (hyes a na J.len)) (fun f s6 hsp => ?_) fun _ _ z => False.elim z
    have end_ : ∀ {σ6 : L2.St} {H6 : Hp} {Q : Shared → Prop}, Inv (suiteX X a (X.pn ++ pins)) [] σ6 H6 s6 → (∀ s7, Inv X pins (σ6.set i none) H6 s7 → Q s7) →
        wpAny (model X.prog X.w) X.A (do bindName X.env n .none; unbindBehindTheSuite X.env n pos') (fun _ s7 => Q s7) X.xe s6 := fun {σ6 H6 Q} S6 hq => gone_ok (back S6) hN hi hln hq
    cases f with
    | next =>
      obtain ⟨σ6, H6, S6, q6⟩ := hsp
      exact end_ S6 fun s7 J7 => ⟨_, _, J7, q6⟩
    | brk =>
      obtain ⟨σ6, H6, S6, q6⟩ := hsp
      exact end_ S6 fun s7 J7 => ⟨_, _, J7, q6⟩
    | cont =>
      obtain ⟨σ6, H6, S6, q6⟩ := hsp
      exact end_ S6 fun s7 J7 => ⟨_, _, J7, q6⟩
    | ret u =>
      obtain ⟨v6, σ6, H6, S6, r6, q6⟩ := hsp
      exact end_ S6 fun s7 J7 => ⟨_, _, _, J7, r6, q6⟩
end
end Bx
-- needs tryX
-- imports HandS.TryMany HandS.HotCalls HandS.Defaults
/-! a def called where an exception may be handled: it neither raises nor leans on the calm -/
namespace Bx
open PySem PySem.Spec PyProof.Rows L2 L2H
/-- the context of its body -/
def cxA (P : Program) (w : World) (K : PySem.W.Frag) (mg : Str → Option Value) (base : Heap) (N : List Str) (qual : Str) (scope : Scope) (f : Addr) (cd : Value) (A : Around) (outer : List PySem.Env) (s : Shared) (H : Hp) : Cx :=
  { cxOf CX0 P w K mg base N qual scope f cd A outer s H E0 with calm := false, xe := fun _ _ => False }
structure FnA (P : Program) (w : World) (K : PySem.W.Frag) (mg : Str → Option Value) (base : Heap) (k : Nat) (f : Addr) (fd : FuncData) (ps : List Str) (sp : Sp) : Prop where
  len : ∀ vs H Q E, sp vs H Q E → vs.length = ps.length
  run : ∀ (A : Around) (outer : List PySem.Env) (s : Shared) (H : Hp) (args : Args) (us : List Value) (vs : List V) (Q : VK) (E : XK), RoomH k A → Env0 P w K mg base A outer s H → BindsTo s fd args (ps.zip us) → Vals vs us → sp vs H Q E →
    codeAny (model P w) A (.call (.ref f) args) (fun r s' => ∃ u, r = .ok (.ret u) ∧ CE outer P w H s Q u s') s
theorem inv_startA {P : Program} {w : World} {K : PySem.W.Frag} {mg : Str → Option Value} {base : Heap} {N ps : List Str} {qual : Str} {scope : Scope} {f : Addr} {cd : Value} {A : Around} {outer : List PySem.Env} {s s1 : Shared} {H : Hp} {us : List Value} {vs : List V}
    (S : FnScope N ps scope) (e0 : Env0 P w K mg base A outer s H) (hl : vs.length = ps.length) (r : Vals vs us)
    (x : InCallC s s.heap.objs.size (bindL (envOfC qual scope s.heap.objs.size f cd).kindOf (ps.zip us) fun _ => none) (cellsFrom (s.heap.objs.size + 1) scope.names []) (bindC (envOfC qual scope s.heap.objs.size f cd).kindOf (ps.zip us) fun _ => none) s1) :
    Inv (cxA P w K mg base N qual scope f cd A outer s H) [] (L2.start N vs) H s1 := by
  have hpl : ps.length ≤ N.length := by have := congrArg List.length S.pre; rw [List.length_take] at this; omega
  obtain ⟨h1, tk, rfl, hk⟩ := x.done
  have noA : ∀ b : Addr, b ∉ (cxA P w K mg base N qual scope f cd A outer s H).ex := fun b z => absurd (show b ∈ ([] : List Addr) from z) (by simp)
  refine ⟨⟨e0.mod, S.kind, rfl, rfl, Nat.le_refl _, fun y z c h1 h2 => ?_, fun y hy => ?_, fun y c _ h => ?_, (fun z => Bool.noConfusion (show false = true from z)), Around.frames_deeper e0.frames, .inr ⟨rfl, rfl⟩, fun b z => absurd z (noA b), e0.bs, e0.bsz, fun b _ _ => noA b, fun b z => absurd z (noA b), e0.funs, e0.frf⟩,
    rfl, e0.bare, Un.kept hk, ⟨_, x.toInCall.ns, fun i y v h1 h2 h3 => ?_⟩, fun y c h => ⟨_, x.cell y c h⟩, e0.hok.fresh (Nat.le_refl _), fun y c h => ?_, fun q hq => absurd (show q ∈ ([] : List (Addr × Obj)) ++ [] from hq) (by simp), e0.hok.kept hk, ?_⟩
  · exact name_of_addr x.apart (PySem.mem_of_lookup h1) (PySem.mem_of_lookup h2)
  · have hy : scope.names.lookup y = some .cell ∨ scope.names.lookup y = some .free := hy
    rcases hy with hy | hy
    · exact cell_has hy
    · exact absurd rfl (S.nofree _ (PySem.mem_of_lookup hy))
  · exact Nat.le_of_lt (x.above y c (PySem.mem_of_lookup h))
  · have hi : i < vs.length := by
      unfold L2.start at h2
      by_cases hi : i < vs.length
      · exact hi
      · rw [List.getElem?_append_right (by simpa using hi)] at h2
        rw [List.getElem?_replicate] at h2
        split at h2 <;> cases h2
    have ha : vs[i]? = some v := by
      unfold L2.start at h2
      rw [List.getElem?_append_left (by simpa using hi), List.getElem?_map] at h2
      cases e : vs[i]? with
      | none => rw [e] at h2; cases h2
      | some a => rw [e] at h2; cases h2; rfl
    obtain ⟨u, hu, rv⟩ := r.get ha
    have hp : ps[i]? = some y := by
      rw [← S.pre, List.getElem?_take_of_lt (by omega)]; exact h1
    have ndP : ps.Nodup := by rw [← S.pre]; exact S.nd.sublist (List.take_sublist _ _)
    refine ⟨u, rv, ?_⟩
    rcases S.par y (List.mem_of_getElem? hp) with k | k
    · exact .inl ⟨k, bindL_get ndP hp hu k⟩
    · obtain ⟨c, e⟩ := cell_has (n := s.heap.objs.size + 1) k
      refine .inr ⟨.inl k, c, e, ?_⟩
      have q := x.cell y c e
      rw [bindC_get ndP hp hu (by show scope.names.lookup y ≠ _; rw [k]; decide)] at q
      exact q
  · exact e0.hok.fresh (Nat.le_of_lt (x.above y c (PySem.mem_of_lookup h)))
  · unfold L2.start
    show _ = N.length
    rw [List.length_append, List.length_map, List.length_replicate]
    omega
theorem fn_ofA {P : Program} {w : World} {K : PySem.W.Frag} {mg : Str → Option Value} {base : Heap} {k : Nat} {f : Addr} {name qual : Str} {params : Arguments} {body : List Stmt} {scope : Scope} {dV kV doc pm cdv ct oc : Value} {an od : Option Addr}
    {osl : Array (Option Value)} {N ps : List Str} {sp : Sp} (lk : K.lookup f = some ⟨oc, od, .func (PySem.W.fnOf name qual params body scope dV kV doc pm an cdv ct), osl⟩) (hcd : PySem.W.codeIn K cdv qual = true) (S : FnScope N ps scope)
    (len : ∀ vs H Q E, sp vs H Q E → vs.length = ps.length)
    (hbody : ∀ (A : Around) (outer : List PySem.Env) (s : Shared) (H : Hp) (vs : List V) (Q : VK) (E : XK), RoomH k (A.deeper (envOfC qual scope s.heap.objs.size f cdv)) → sp vs H Q E →
      ∃ t, PSs (cxA P w K mg base N qual scope f cdv A outer s H) body t ∧ t { nx := fun _ H' => Q .non H', rt := Q } (L2.start N vs) H) :
    FnA P w K mg base (k + 1) f (PySem.W.fnOf name qual params body scope dV kV doc pm an cdv ct) ps sp := by
  refine ⟨len, fun A outer s H args us vs Q E hr e0 hb r hsp => ?_⟩
  have hl := len _ _ _ _ hsp
  have KX : K.In s.heap := e0.mod.kin.keeps fun b o e => (e0.bs b o e).1
  have lim : s.heap.NoLimit := e0.mod.nolimit.keeps fun b o e => (e0.bs b o e).1
  have hkind : ∀ y ∈ ps.zip us, scope.names.lookup y.1 = some .local ∨ (scope.names.lookup y.1 = some .cell ∧ ((cellsFrom (s.heap.objs.size + 1) scope.names []).lookup y.1).isSome = true) := fun ⟨n, v⟩ hy => by
    rcases S.par n (List.of_mem_zip hy).1 with q | q
    · exact .inl q
    · exact .inr ⟨q, PySem.W.cellsFrom_some _ _ _ (.inl q)⟩
  refine codeAny_call_function hr.depth (KX _ _ lk) rfl S.co S.gen rfl (PySem.W.codeRec_of KX hcd) (hb _ _ _ _ ?_)
  refine wpAny_newFunctionEnv_cells S.kind hkind fun env he s1 x => ?_
  subst he
  refine ⟨lim.keeps x.toInCall.keep, codeAny_func ?_⟩
  obtain ⟨t, ht, hq⟩ := hbody A outer s H vs Q E (hr.deeper _) hsp
  have I : Inv (cxA P w K mg base N qual scope f cdv A outer s H) [] (L2.start N vs) H s1 := inv_startA S e0 hl r x
  refine wpAny_mono (ht.run [] s1 (L2.start N vs) H _ I hq) (fun fl s' hs => ?_) fun e s' hs => False.elim hs
  have fin : ∀ {σ' : L2.St} {H' : Hp} {v : V} {u : Value}, Inv (cxA P w K mg base N qual scope f cdv A outer s H) [] σ' H' s' → L2.RelV v u → Q v H' → CE outer P w H s Q u s' :=
    fun {σ' H' v u} J rv q => ⟨v, H', J.os, J.bare, J.base, J.hok, rv, q⟩
  cases fl with
  | ret u =>
    obtain ⟨v, σ', H', J, rv, q⟩ := hs
    exact ⟨_, rfl, fin J rv q⟩
  | next =>
    obtain ⟨σ', H', J, q⟩ := hs
    exact ⟨_, rfl, fin (v := V.non) (u := Value.none) J rfl q⟩
  | brk =>
    obtain ⟨_, _, _, q⟩ := hs
    exact False.elim q
  | cont =>
    obtain ⟨_, _, _, q⟩ := hs
    exact False.elim q
theorem _root_.L2.FunD.okA {P : Program} {w : World} {K : PySem.W.Frag} {mg : Str → Option Value} {base : Heap} {x qual : Str} {params : Arguments} {body : List Stmt} {scope : Scope} {dvs : List V} {kws : List (Str × V)} {f : Addr} {fd : FuncData} {N ps : List Str} {k : Nat} {sp : Sp} (F : FunD K x qual params body scope dvs kws f fd) (S : FnScope N ps scope) (len : ∀ vs H Q E, sp vs H Q E → vs.length = ps.length)
    (hbody : ∀ (cdv : Value) (A : Around) (outer : List PySem.Env) (s : Shared) (H : Hp) (vs : List V) (Q : VK) (E : XK), RoomH k (A.deeper (envOfC qual scope s.heap.objs.size f cdv)) → sp vs H Q E →
      ∃ t, PSs (cxA P w K mg base N qual scope f cdv A outer s H) body t ∧ t { nx := fun _ H' => Q .non H', rt := Q } (L2.start N vs) H) : FnA P w K mg base (k + 1) f fd ps sp := by
  obtain ⟨oc, od, dV, kV, doc, pm, an, cdv, ct, osl, rfl, lk, hcd, _, _⟩ := F.ex
  exact fn_ofA lk hcd S len fun A outer s H vs Q E hr hsp => hbody cdv A outer s H vs Q E hr hsp
/-- a def under the module's name x, called anywhere -/
def GoodA (P : Program) (w : World) (K : PySem.W.Frag) (mg : Str → Option Value) (base : Heap) (k : Nat) (x : Str) (ps : List Str) (sp : Sp) : Prop :=
  ∃ fd, FnA P w K mg base k (He.ga K x) fd ps sp ∧ Binds K fd ps [] ∧ PySem.W.keepIn K (.ref (He.ga K x)) = true ∧ mg x = some (.ref (He.ga K x))
section
variable {X : Cx} {k : Nat} {ps : List Str} {sp : Sp} {x : Str} {q pos : Pos} {e : Expr} {es : List Expr} {t : TA}
theorem pe_GA (G : GoodA X.prog X.w X.K X.mg X.base k x ps sp) (hr : RoomH k X.A) (hg : Gl X x)
    (ha : PA X (e :: es) t) (hdb : (x == ("__debug__" : Str)) = false := by decide) (he : starEach (e :: es) X.env = (false, eval e X.env) :: starEach es X.env := by rfl) (hpl : (backTo pos (starEach es X.env)).any (·.1) = false := by rfl) :
    PE X (.Call (.Name x q) (e :: es) [] pos) (tCall sp [] E0 t) := by
  obtain ⟨fd, F, hb, hk, hm⟩ := G
  refine ⟨fun pins s σ H Q I h => ?_⟩
  refine wpAny_Call_Name_kw (ld_glob I hg hm ?_ hdb)
  refine PySem.W.callWith_K (h₀ := X.base) I.ok.mod.kin hk (thn (ha.run pos pins s σ H _ I h) fun us s1 ⟨vs, H1, I1, r, q⟩ => ⟨I1.kIn, ?_⟩) he hpl
  have q : sp (vs ++ []) H1 Q E0 := q
  rw [List.append_nil] at q
  have hl : us.length = ps.length := by rw [← r.length]; exact F.len _ _ _ _ q
  have b := hb s1 us I1.kIn (by rw [List.append_nil]; exact hl)
  rw [List.append_nil] at b
  refine wpAny_call (codeAny_mono (F.run X.A X.stack s1 H1 ⟨us, []⟩ us vs Q E0 hr I1.env0 b r q) fun r s' hq => ?_)
  obtain ⟨u, rfl, hq⟩ := hq
  exact I1.after hq
end
end Bx
-- needs fnA hookW
-- imports HandS.Lambda
/-! _law_try: a lambda called within try .. except PathError as e: (e.tag, _law_field(e)) -/
namespace Bx
open PySem PySem.Spec PyProof.Rows L2 LamX L2H
/-- the field that a tag names -/
def fldOf (tag : Str) : Option Str :=
  if inV (.str tag) [.str "InvalidPair", .str "InvalidCount"] then some "given" else
  if inV (.str tag) [.str "InvalidName", .str "DuplicateName", .str "InUse", .str "WrongKind", .str "Ring", .str "UnknownName", .str "Ended"] then some "name" else
  if inV (.str tag) [.str "InvalidLimit", .str "CapacityExceeded", .str "TooLong"] then some "limit" else
  if decide (V.str tag = V.str "InvalidProgram") then some "line" else
  if decide (V.str tag = V.str "InvalidCommand") then some "word" else
  if decide (V.str tag = V.str "InvalidItem") then some "place" else
  if decide (V.str tag = V.str "Heavy") then some "most" else
  if decide (V.str tag = V.str "ParseError") then some "row" else none
/-- what _law_field says of an exception with this tag and these fields -/
def FldOk (K : PySem.W.Frag) (C : Addr) (fs : List (Str × V)) (tag : Str) (v : V) : Prop := match fldOf tag with
  | none => v = .non
  | some f => PySem.W.findIn K (.ref C) f = some none ∧ fs.lookup f = some v
def sp_field (K : PySem.W.Frag) : Sp := fun vs H Q _ => ∃ (a C dd : Addr) (fs : List (Str × V)) (tag : Str) (v : V), vs = [.ref a] ∧ H a = some (excT a (.ref C) (some dd)) ∧ XfC K C ∧ PySem.W.findIn K (.ref C) "tag" = some none ∧ H dd = some (.xd fs) ∧
  fs.lookup ("tag" : Str) = some (.str tag) ∧ FldOk K C fs tag v ∧ ∀ H', Same H H' → Q v H'
/-- the exception that _law_try tells -/
def ETry (K : PySem.W.Frag) (c : Addr) (Q : VK) : XK := fun cls d H' => ∃ (C dd : Addr) (fs : List (Str × V)) (tag : Str) (v : V), cls = .ref C ∧ d = some dd ∧ PySem.W.exmOne K (.ref C) (.ref c) = some true ∧ H' dd = some (.xd fs) ∧ XfC K C ∧
  PySem.W.findIn K (.ref C) "tag" = some none ∧ fs.lookup ("tag" : Str) = some (.str tag) ∧ FldOk K C fs tag v ∧ ∀ H1, Same H' H1 → ∀ p, H1 p = none → Q (.ref p) (upd H1 p (.tup [.str tag, v]))
/-- _law_try of a lambda that reads tl; ET: what is told of exceptions -/
def TTryE (ET : VK → XK) : (XK → Hp → VK → Prop) → Hp → VK → Prop := fun tl H Q => tl (ET Q) H fun v H' => ([.str "value", v] : List V).length ≤ sizeLine ∧ ∀ p, H' p = none → Q (.ref p) (upd H' p (.tup [.str "value", v]))
def TTry (K : PySem.W.Frag) (c : Addr) : (XK → Hp → VK → Prop) → Hp → VK → Prop := fun tl H Q => tl (ETry K c Q) H fun v H' => ([.str "value", v] : List V).length ≤ sizeLine ∧ ∀ p, H' p = none → Q (.ref p) (upd H' p (.tup [.str "value", v]))
theorem try_gives {X : Cx} {k kf : Nat} {q : Str} {sg : Scope} {g c : Addr} {cdg : Value} {j j2 j3 : Nat} {p1 p2 p3 p4 p5 p6 p7 p8 p9 pa pb pc pd pe pf : Pos} {hds : List ExceptHandler}
    (G : GoodA X.prog X.w X.K X.mg X.base kf "_law_field" ["e"] (sp_field X.K)) (hr : Room (k + 1) X.A) (hk : kf ≤ k)
    (hln : sg.names.lookup ("e" : Str) = some .local) (hge : sg.names.lookup ("PathError" : Str) = some .globalImplicit) (hme : X.mg "PathError" = some (.ref c)) (hgf : sg.names.lookup ("_law_field" : Str) = some .globalImplicit) :
    GivesTo X ["ask", "e"] "_law_try" sg g cdg [.Try [.Return (some (.Tuple [.Constant (.str "value") j p1, .Call (.Name "ask" p2) [] [] p3] j2 p4)) p5]
      (.ExceptHandler (some (.Name "PathError" p6)) (some "e") [.Return (some (.Tuple [.Attribute (.Name "e" p7) "tag" p8, .Call (.Name "_law_field" p9) [.Name "e" pa] [] pb] j3 pc)) pd] pe :: hds) [] [] pf] "ask" q (TTry X.K c) := by
  intro fl c' s H Q tl act hc h
  have hr1 : Room k (X.A.deeper (envOfC "_law_try" sg s.heap.objs.size g cdg)) := hr.deeper _
  let Y : Cx := (cxOf CX0 X.prog X.w X.K X.mg X.base ["ask", "e"] "_law_try" sg g cdg X.A X.stack s H E0).nox
  have nmE : Names Y "PathError" (.ref c) := ⟨hge, by decide, .inl hme⟩
  have ve : ∀ ax pn, PE (suiteX Y ax pn) (.Name "e" p7) (tVar 1) := fun ax pn => pe_var (i := 1) (x := "e") rfl (.inl hln) (by decide) (by decide)
  have vt : ∀ ax pn, PE (suiteX Y ax pn) (.Attribute (.Name "e" p7) "tag" p8) (tXT X.K "tag" (tVar 1)) := fun ax pn => pe_xT (n := "tag") (ve ax pn) rfl
  have nd2 : Y.N.Nodup := show (["ask", "e"] : List Str).Nodup by decide
  have ve2 : ∀ ax pn, PE (suiteX Y ax pn) (.Name "e" pa) (tVar 1) := fun ax pn => pe_var (i := 1) (x := "e") rfl (.inl hln) (by decide) (by decide)
  refine ⟨_, pss_one (ps_try_as1 (X := Y) (c := .ref c) (i := 1) (x := "PathError") (n := "e")
      (tb := fun W D σ H => ∃ Ech : XK, (∀ cls d σ' H', Ech cls d H' → W cls d σ' H') ∧ σ[0]? = some (some (.ref fl)) ∧ H c' = some (CodeO c' q) ∧ tl Ech H (fun v H1 => ([.str "value", v] : List V).length ≤ sizeLine ∧ ∀ p, H1 p = none → D.rt (.ref p) (upd H1 p (.tup [.str "value", v]))))
      rfl rfl rfl nd2 rfl hln nmE (fun W pn xe tk _ => ?_) fun ax pn => pss_one (ps_ret (pe_tup (pa_cons (X := suiteX Y ax pn) (vt ax pn) (pa_cons (pe_GA (k := kf) G (X := suiteX Y ax pn) ⟨(roomH_of hr1 |>.mono hk).dp, (roomH_of hr1 |>.mono hk).un⟩ hgf (pa_cons (ve2 ax pn) pa_nil)) pa_nil))))), ?_⟩
  · refine ⟨fun pins s' σ H' D I h' => ?_⟩
    obtain ⟨Ech, hW, h1, h2, h3⟩ := h'
    have hp := act W pn xe Ech p2 p3 tk hW
    have hq := pss_one (ps_ret (pos := p5) (pe_tup (x1 := j2) (pos := p4) (pa_cons (pe_str (x := "value") (j := j) (pos := p1)) (pa_cons hp pa_nil))))
    exact hq.run pins s' σ H' D I ⟨h1, h2, h3⟩
  · refine ⟨ETry X.K c Q, fun cls d σ' H' x => ?_, rfl, hc, h⟩
    obtain ⟨C, dd, fs, tag, v, rfl, rfl, ex, hd, T, ht, l, fo, hq⟩ := x
    refine ⟨ex, fun ax na hl => ?_⟩
    have hs1 : (List.set σ' 1 (some (V.ref ax)))[1]? = some (some (V.ref ax)) := by
      rw [List.getElem?_set_self]
      have hl : σ'.length = 2 := hl
      omega
    have e1 : Same H' (upd H' ax (excT ax (.ref C) (some dd))) := same_new na
    have ea : upd H' ax (excT ax (.ref C) (some dd)) ax = some (excT ax (.ref C) (some dd)) := upd_same
    have ed : upd H' ax (excT ax (.ref C) (some dd)) dd = some (.xd fs) := e1 _ _ hd
    refine ⟨.ref ax, hs1, ax, C, dd, fs, .str tag, rfl, ea, T, ht, ed, l, .ref ax, hs1, ?_⟩
    refine ⟨ax, C, dd, fs, tag, v, rfl, ea, T, ht, ed, l, fo, fun H2 e2 => ⟨by show 2 ≤ sizeLine; decide, fun p hp => ?_⟩⟩
    exact hq H2 (e1.trans e2) p hp
/-- _law_try, as the caller sees it -/
def GoodT (P : Program) (w : World) (K : PySem.W.Frag) (mg : Str → Option Value) (base : Heap) (k : Nat) (ET : VK → XK) : Prop :=
  ∃ (oc dV kV doc pm cdv ct : Value) (an od : Option Addr) (osl : Array (Option Value)) (pg : Arguments) (bg : List Stmt) (sg : Scope),
    K.lookup (He.ga K "_law_try") = some ⟨oc, od, .func (PySem.W.fnOf "_law_try" "_law_try" pg bg sg dV kV doc pm an cdv ct), osl⟩ ∧ PySem.W.codeIn K cdv "_law_try" = true ∧
    L2.Binds K (PySem.W.fnOf "_law_try" "_law_try" pg bg sg dV kV doc pm an cdv ct) ["ask"] [] ∧ FnScope ["ask", "e"] ["ask"] sg ∧ PySem.W.keepIn K (.ref (He.ga K "_law_try")) = true ∧ mg "_law_try" = some (.ref (He.ga K "_law_try")) ∧
    ∀ (X : Cx) (q : Str), X.prog = P → X.w = w → X.K = K → X.mg = mg → X.base = base → Room (k + 1) X.A → GivesTo X ["ask", "e"] "_law_try" sg (He.ga K "_law_try") cdv bg "ask" q (TTryE ET)
section
variable {X : Cx} {k j : Nat} {ET : VK → XK} {cd P : Addr} {p lpos pos : Pos} {params : Arguments} {body : Expr} {scope : Scope} {t : XK → TE}
theorem pe_T (G : GoodT X.prog X.w X.K X.mg X.base k ET) (hg : Gl X "_law_try") (TB : TabB X.base X.mg cd P) (hcode : X.env.code = .ref cd) (hr : Room (k + 1) X.A) (hj : j + 1 ≤ k) (L : LamS X.env.scope scope) (hdef : defaultsOf params X.env = ([], []))
    (hbind : ∀ (q : Str) (cl : List (Str × Addr)) (pm cv ctv : Value), bindArgs (PySem.W.kla_fn "<lambda>" q params body scope cl pm cv ctv) ⟨[], []⟩ = pure [])
    (hbody : ∀ (A : Around) (outer : List PySem.Env) (s : Shared) (H : Hp) (E : XK) (f c' : Addr), Room j (A.deeper (lamEnv X scope s.heap.objs.size f c')) → PE (lamCx X A outer s H E scope f c') body (t E)) :
    PE X (.Call (.Name "_law_try" p) [.Lambda params body scope lpos] [] pos) (tLam [(P, X.env.qual ++ "<lambda>")] (TTryE ET) t) := by
  obtain ⟨oc, dV, kV, doc, pm, cdv, ct, an, od, osl, pg, bg, sg, lk, hcg, hb, S, hk, hm, hG⟩ := G
  have hva : Vis sg "ask" := by
    rcases S.par "ask" (by decide) with k | k
    · exact .inl k
    · exact .inr (.inl k)
  exact pe_lamcall hg hm hk lk hcg hb S rfl hva (hG X _ rfl rfl rfl rfl rfl hr) TB hcode (List.mem_singleton.mpr rfl) (fun q hq _ => by rw [List.mem_singleton.mp hq]) (hr.mono (by omega)) L hdef hbind hbody
end
theorem good_try {P : Program} {w : World} {K : PySem.W.Frag} {mg : Str → Option Value} {base : Heap} {k : Nat} {ET : VK → XK} {pg : Arguments} {bg : List Stmt} {sg : Scope} {fd : FuncData} (F : FunD K "_law_try" "_law_try" pg bg sg [] [] (He.ga K "_law_try") fd) (hb : L2.Binds K fd ["ask"] []) (S : FnScope ["ask", "e"] ["ask"] sg) (hm : mg "_law_try" = some (.ref (He.ga K "_law_try")))
    (hG : ∀ (X : Cx) (q : Str) (cdv : Value), X.prog = P → X.w = w → X.K = K → X.mg = mg → X.base = base → Room (k + 1) X.A → GivesTo X ["ask", "e"] "_law_try" sg (He.ga K "_law_try") cdv bg "ask" q (TTryE ET)) : GoodT P w K mg base k ET := by
  have hk := F.kp
  obtain ⟨oc, od, dV, kV, doc, pm, an, cdv, ct, osl, rfl, lk, hcd, _, _⟩ := F.ex
  exact ⟨oc, dV, kV, doc, pm, cdv, ct, an, od, osl, pg, bg, sg, lk, hcd, hb, S, hk, hm, fun X q h1 h2 h3 h4 h5 hr => hG X q cdv h1 h2 h3 h4 h5 hr⟩
theorem passF {X : Cx} : Passes (L2.CX X.prog X.w) X (fun _ _ _ => False) := passes_call takes0 fun _ _ _ _ h => h
end Bx
-- needs tryL
/-! try with several clauses `except X as e`: the first that takes it; _law_try where NothingLeft may come -/
namespace Bx
open PySem PySem.Spec PyProof.Rows L2
/-- what the clauses wish, one after the other -/
def wAsL (nl : Nat) (K : PySem.W.Frag) (i : Nat) (D : Ends) : List (Value × TS) → WX
  | [] => fun _ _ _ _ => False
  | (c, ts) :: r => fun cls d σ H => ∃ bb, PySem.W.exmOne K cls c = some bb ∧ (bb = true → ∀ a, H a = none → σ.length = nl → ts { nx := fun σ' H' => D.nx (σ'.set i none) H', rt := D.rt, bk := fun σ' H' => D.bk (σ'.set i none) H', ct := fun σ' H' => D.ct (σ'.set i none) H' } (σ.set i (some (.ref a))) (upd H a (excT a cls d))) ∧
      (bb = false → wAsL nl K i D r cls d σ H)
inductive HdsAs (X : Cx) (n : Str) : List ExceptHandler → List (Value × TS) → Prop
  | rest {hds : List ExceptHandler} : HdsAs X n hds []
  | cons {x : Str} {c : Value} {ts : TS} {b₀ : Stmt} {suite : List Stmt} {np pos' : Pos} {hds : List ExceptHandler} {l : List (Value × TS)} (hc : Names X x c) (hsu : ∀ (a : Addr) (pn : List (Addr × Obj)), PSs (suiteX X a pn) (b₀ :: suite) ts) (r : HdsAs X n hds l) :
      HdsAs X n (.ExceptHandler (some (.Name x np)) (some n) (b₀ :: suite) pos' :: hds) ((c, ts) :: l)
section
variable {X : Cx} {n : Str} {i : Nat} {body : List Stmt} {pos : Pos} {hds : List ExceptHandler} {tb : WX → TS}
theorem ps_try_asL {l : List (Value × TS)} {h₀ : ExceptHandler} (hex : X.ex = []) (hs : X.stack = X.env :: X.outer) (hf : X.env.frame = some X.env.locals) (hN : X.N.Nodup) (hi : X.N[i]? = some n) (hln : X.env.kindOf n = some .local)
    (hb : ∀ (W : WX) (pn : List (Addr × Obj)) (xe : Value → Shared → Prop), Takes (X.tr pn xe) W → PassesOwn (model X.prog X.w) X.A X.env xe → PSs (X.tr pn xe) body (tb W))
    (hh : HdsAs X n (h₀ :: hds) l) :
    PS X (.Try body (h₀ :: hds) [] [] pos) (fun D σ H => tb (wAsL X.N.length X.K i D l) D σ H) := by
  refine ⟨fun pins s σ H D I h => ?_⟩
  have ok := I.ok
  have frm : X.A.frames = some (X.env :: X.outer) := by rw [ok.frames, hs]
  refine wpAny_Try_except ?_
  have run := (hb (wAsL X.N.length X.K i D l) (X.pn ++ pins) (fun e s₁ => wpAny (model X.prog X.w) X.A (noteFrame e X.env) (fun _ s₂ => wpAny (model X.prog X.w) X.A (setFlight e none) (fun _ s₃ =>
    wpAny (model X.prog X.w) X.A (handleBy e X.env (h₀ :: hds)) (SP X pins D) X.xe s₃) X.xe s₂) X.xe s₁) (fun u s' xx => ?_) PassesOwn.looking).run [] s σ H D (I.toTry _) h
  · refine wpAny_mono run (fun f s1 hsp => ?_) fun _ _ z => z
    cases f with
    | next =>
      obtain ⟨σ', H', J', q⟩ := hsp
      exact wpAny_execs_nil ⟨σ', H', J'.ofTry ok, q⟩
    | brk =>
      obtain ⟨σ', H', J', q⟩ := hsp
      exact ⟨σ', H', J'.ofTry ok, q⟩
    | cont =>
      obtain ⟨σ', H', J', q⟩ := hsp
      exact ⟨σ', H', J'.ofTry ok, q⟩
    | ret u =>
      obtain ⟨v, σ', H', J', r, q⟩ := hsp
      exact ⟨v, σ', H', J'.ofTry ok, r, q⟩
  · obtain ⟨a, B, sI, pins', σ', H', cls, d, rfl, J', nb, up, sky, na, os, ag, w⟩ := xx
    have J : Inv X pins σ' H' sI := J'.ofTry ok
    have sky' : Sky B (X.env :: X.outer) a (Zc cls d) X.env.locals s'.heap := by rw [← hs]; exact sky
    have Bn : B.get? a = none := by
      rcases sky' with ⟨_, h, _⟩ | h | h
      · exact h
      · exact h.2.1
      · exact h.2.1
    show wpAny (model X.prog X.w) X.A (noteFrame (.ref a) X.env) _ _ _
    refine Sky.land Zc.steady frm hf sky' fun h3 fl3 up3 => ?_
    have J3 : Inv X pins σ' H' { s' with heap := h3 } := J.landed nb fl3.1 (up.trans up3) os ag
    obtain ⟨oe3, vs3, he3, hz3, hd3⟩ := fl3.there
    have notFr : ∀ {h : Heap} {o : Obj} {vs : Array Value}, h.FunFrames B (X.env :: X.outer) → h.get? a = some o → o.data = .fields vs → a ∉ frs (X.env :: X.outer) := fun {h o vs} ff e dd hm => by
      obtain ⟨_, o', e', hnf⟩ := ff.mem hm
      rw [e] at e'
      cases e'
      exact hnf _ dd
    have nfr := notFr fl3.2.2.1 he3 hd3
    have nfs : a ∉ frs X.stack := by rw [hs]; exact nfr
    have nI : ∀ o, sI.heap.get? a ≠ some o := fun o e => by
      have := nb a o e nfs
      rw [Bn] at this
      cases this
    have nL : a ≠ X.env.locals := fun z => nfr (List.mem_filterMap.mpr ⟨X.env, List.mem_cons_self, by rw [hf, z]⟩)
    have nF : a ∉ X.fs := fun hm => by
      obtain ⟨e, he, q⟩ := List.mem_filterMap.mp hm
      exact nfr (List.mem_filterMap.mpr ⟨e, List.mem_cons_of_mem _ he, q⟩)
    have n0 : X.s_0.heap.get? a = none := by
      cases q : X.s_0.heap.get? a with
      | none => rfl
      | some o =>
        obtain ⟨o', e'⟩ := J.base.there a o q (by rw [hex]; intro z; cases z)
        exact absurd e' (nI o')
    have npin : ∀ p ∈ X.pn ++ pins, p.1 ≠ a := fun p hp z => by
      have := (J.pin p hp).1
      rw [z] at this
      exact nI _ this
    have S3 := J3.suite he3 hd3 na nL nF
    have go : ∀ {hds' : List ExceptHandler} {l' : List (Value × TS)}, HdsAs X n hds' l' → wAsL X.N.length X.K i D l' cls d σ' H' → wpAny (model X.prog X.w) X.A (handleBy (.ref a) X.env hds') (SP X pins D) X.xe { s' with heap := h3 } := by
      intro hds' l' hk
      induction hk with
      | rest => exact fun w => w.elim
      | @cons x c ts b₀ suite np pos' hds2 l2 hc hsu r ih =>
        intro w
        obtain ⟨bb, hb1, hyes, hno⟩ := w
        refine wpAny_handleBy_cons (codeAny_handlers_test ?_) (by intro q; cases q)
        have LT : PySem.W.Looks (model X.prog X.w) h3 (typeOf (.ref a)) cls := fun A Q E s k q => wpAny_typeOf_ref (k _ _ he3) (by rw [hz3.1]; exact q)
        have LM := PySem.W.exm_one (M := model X.prog X.w) (J3.kIn) LT hb1
        have test : ∀ {Q : Value → Shared → Prop} {E : Value → Shared → Prop}, Q c { s' with heap := h3 } → wpAny (model X.prog X.w) (X.A.mark (some (.ref a))) (eval (.Name x np) X.env) Q E { s' with heap := h3 } := fun {Q E} q => by
          obtain ⟨hg, hdbg, hm | ⟨hm, hv, hnn⟩⟩ := hc
          · exact ld_glob (X := X.suite a ((a, oe3) :: (X.pn ++ pins))) S3 hg hm q hdbg
          · exact ld_blt (X := X.suite a ((a, oe3) :: (X.pn ++ pins))) S3 hg hm hv q hnn hdbg
        refine test (LM.here ?_)
        cases bb with
        | false => exact ih (hno rfl)
        | true =>
          refine codeAny_handlers_suite_as ?_
          refine HandSPX.lands_againZ fl3 fun h4 fl4 up4 => ?_
          have J4 : Inv X pins σ' H' { s' with heap := h4 } := J.landed nb fl4.1 ((up.trans up3).trans up4) os ag
          obtain ⟨oe4, vs4, he4, hz4, hd4⟩ := fl4.there
          have T4 := Inv.told J4 he4 hz4 hd4 na n0 nL npin
          have S4 : Inv (suiteX X a (X.pn ++ pins)) [] σ' (upd H' a (excT a cls d)) { s' with heap := h4 } :=
            ⟨T4.ok.suite a _, T4.os, T4.bare, T4.base, T4.loc, T4.cell, T4.free, T4.freeC, fun p hp => T4.pin p (by rw [List.append_nil] at hp; exact hp), T4.hok, T4.len⟩
          refine store_ok (X := suiteX X a (X.pn ++ pins)) (v := .ref a) S4 hN hi (.inl hln) rfl (fun s5 S5 => ?_) (.inr hln)
          have back : ∀ {σ6 : L2.St} {H6 : Hp} {s6 : Shared}, Inv (suiteX X a (X.pn ++ pins)) [] σ6 H6 s6 → Inv X pins σ6 H6 s6 := fun S => ⟨ok, S.os, S.bare, S.base, S.loc, S.cell, S.free, S.freeC, fun p hp => S.pin p (List.mem_append_left _ hp), S.hok, S.len⟩
          refine wpAny_mono ((hsu a (X.pn ++ pins)).run [] s5 _ _ _ S5 (hyes rfl a na J.len)) (fun f s6 hsp => ?_) fun _ _ z => False.elim z
          have end_ : ∀ {σ6 : L2.St} {H6 : Hp} {Q : Shared → Prop}, Inv (suiteX X a (X.pn ++ pins)) [] σ6 H6 s6 → (∀ s7, Inv X pins (σ6.set i none) H6 s7 → Q s7) →
              wpAny (model X.prog X.w) X.A (do bindName X.env n .none; unbindBehindTheSuite X.env n pos') (fun _ s7 => Q s7) X.xe s6 := fun {σ6 H6 Q} S6 hq => gone_ok (back S6) hN hi hln hq
          cases f with
          | next =>
            obtain ⟨σ6, H6, S6, q6⟩ := hsp
            exact end_ S6 fun s7 J7 => ⟨_, _, J7, q6⟩
          | brk =>
            obtain ⟨σ6, H6, S6, q6⟩ := hsp
            exact end_ S6 fun s7 J7 => ⟨_, _, J7, q6⟩
          | cont =>
            obtain ⟨σ6, H6, S6, q6⟩ := hsp
            exact end_ S6 fun s7 J7 => ⟨_, _, J7, q6⟩
          | ret u =>
            obtain ⟨v6, σ6, H6, S6, r6, q6⟩ := hsp
            exact end_ S6 fun s7 J7 => ⟨_, _, _, J7, r6, q6⟩

    exact go hh w
end
open LamX L2H
/-- the exception that _law_try tells: a PathError, or NothingLeft -/
def ETryN (K : PySem.W.Frag) (c cm cn : Addr) (Q : VK) : XK := fun cls d H' => ETry K c Q cls d H' ∨ ∃ (C dd : Addr) (fs : List (Str × V)) (tag : Str), cls = .ref C ∧ d = some dd ∧ PySem.W.exmOne K (.ref C) (.ref c) = some false ∧ PySem.W.exmOne K (.ref C) (.ref cm) = some false ∧ PySem.W.exmOne K (.ref C) (.ref cn) = some true ∧
  H' dd = some (.xd fs) ∧ XfC K C ∧ PySem.W.findIn K (.ref C) "tag" = some none ∧ fs.lookup ("tag" : Str) = some (.str tag) ∧ ∀ H1, Same H' H1 → ∀ p, H1 p = none → Q (.ref p) (upd H1 p (.tup [.str tag, .non]))
theorem try_givesN {X : Cx} {k kf : Nat} {q : Str} {sg : Scope} {g c cm cn : Addr} {cdg : Value} {j j2 j3 m3 n3 : Nat} {p1 p2 p3 p4 p5 p6 p7 p8 p9 pa pb pc pd pe pf q6 q7 q8 q9 qa qb qc qd qe r6 r7 r8 r9 ra rb rc : Pos} {hds : List ExceptHandler}
    (G : GoodA X.prog X.w X.K X.mg X.base kf "_law_field" ["e"] (sp_field X.K)) (hr : Room (k + 1) X.A) (hk : kf ≤ k)
    (hln : sg.names.lookup ("e" : Str) = some .local) (hge : sg.names.lookup ("PathError" : Str) = some .globalImplicit) (hme : X.mg "PathError" = some (.ref c))
    (hge2 : sg.names.lookup ("Missing" : Str) = some .globalImplicit) (hme2 : X.mg "Missing" = some (.ref cm)) (hge3 : sg.names.lookup ("NothingLeft" : Str) = some .globalImplicit) (hme3 : X.mg "NothingLeft" = some (.ref cn)) (hgf : sg.names.lookup ("_law_field" : Str) = some .globalImplicit) :
    GivesTo X ["ask", "e"] "_law_try" sg g cdg [.Try [.Return (some (.Tuple [.Constant (.str "value") j p1, .Call (.Name "ask" p2) [] [] p3] j2 p4)) p5]
      (.ExceptHandler (some (.Name "PathError" p6)) (some "e") [.Return (some (.Tuple [.Attribute (.Name "e" p7) "tag" p8, .Call (.Name "_law_field" p9) [.Name "e" pa] [] pb] j3 pc)) pd] pe ::
       .ExceptHandler (some (.Name "Missing" q6)) (some "e") [.Return (some (.Tuple [.Attribute (.Name "e" q7) "tag" q8, .Call (.Name "_law_field" q9) [.Name "e" qa] [] qb] m3 qc)) qd] qe ::
       .ExceptHandler (some (.Name "NothingLeft" r6)) (some "e") [.Return (some (.Tuple [.Attribute (.Name "e" r7) "tag" r8, .Constant .none n3 r9] n3 ra)) rb] rc :: hds) [] [] pf] "ask" q (TTryE (ETryN X.K c cm cn)) := by
  intro fl c' s H Q tl act hc h
  have hr1 : Room k (X.A.deeper (envOfC "_law_try" sg s.heap.objs.size g cdg)) := hr.deeper _
  let Y : Cx := (cxOf CX0 X.prog X.w X.K X.mg X.base ["ask", "e"] "_law_try" sg g cdg X.A X.stack s H E0).nox
  have nm1 : Names Y "PathError" (.ref c) := ⟨hge, by decide, .inl hme⟩
  have nm2 : Names Y "Missing" (.ref cm) := ⟨hge2, by decide, .inl hme2⟩
  have nm3 : Names Y "NothingLeft" (.ref cn) := ⟨hge3, by decide, .inl hme3⟩
  have ve : ∀ ax pn (pp : Pos), PE (suiteX Y ax pn) (.Name "e" pp) (tVar 1) := fun ax pn pp => pe_var (i := 1) (x := "e") rfl (.inl hln) (by decide) (by decide)
  have vt : ∀ ax pn (pp qq : Pos), PE (suiteX Y ax pn) (.Attribute (.Name "e" pp) "tag" qq) (tXT X.K "tag" (tVar 1)) := fun ax pn pp qq => pe_xT (n := "tag") (ve ax pn pp) rfl
  have vf : ∀ ax pn (pp qq rr : Pos), PE (suiteX Y ax pn) (.Call (.Name "_law_field" pp) [.Name "e" qq] [] rr) _ := fun ax pn pp qq rr => pe_GA (k := kf) G (X := suiteX Y ax pn) ⟨(roomH_of hr1 |>.mono hk).dp, (roomH_of hr1 |>.mono hk).un⟩ hgf (pa_cons (ve ax pn qq) pa_nil)
  have nd2 : Y.N.Nodup := show (["ask", "e"] : List Str).Nodup by decide
  refine ⟨_, pss_one (ps_try_asL (X := Y) (i := 1) (n := "e")
      (tb := fun W D σ H => ∃ Ech : XK, (∀ cls d σ' H', Ech cls d H' → W cls d σ' H') ∧ σ[0]? = some (some (.ref fl)) ∧ H c' = some (CodeO c' q) ∧ tl Ech H (fun v H1 => ([.str "value", v] : List V).length ≤ sizeLine ∧ ∀ p, H1 p = none → D.rt (.ref p) (upd H1 p (.tup [.str "value", v]))))
      rfl rfl rfl nd2 rfl hln (fun W pn xe tk _ => ?_)
      (.cons nm1 (fun ax pn => pss_one (ps_ret (pe_tup (pa_cons (X := suiteX Y ax pn) (vt ax pn p7 p8) (pa_cons (vf ax pn p9 pa pb) pa_nil)))))
        (.cons nm2 (fun ax pn => pss_one (ps_ret (pe_tup (pa_cons (X := suiteX Y ax pn) (vt ax pn q7 q8) (pa_cons (vf ax pn q9 qa qb) pa_nil)))))
          (.cons nm3 (fun ax pn => pss_one (ps_ret (pe_tup (pa_cons (X := suiteX Y ax pn) (vt ax pn r7 r8) (pa_cons pe_non pa_nil))))) .rest)))), ?_⟩
  · refine ⟨fun pins s' σ H' D I h' => ?_⟩
    obtain ⟨Ech, hW, h1, h2, h3⟩ := h'
    have hp := act W pn xe Ech p2 p3 tk hW
    have hq := pss_one (ps_ret (pos := p5) (pe_tup (x1 := j2) (pos := p4) (pa_cons (pe_str (x := "value") (j := j) (pos := p1)) (pa_cons hp pa_nil))))
    exact hq.run pins s' σ H' D I ⟨h1, h2, h3⟩
  · refine ⟨ETryN X.K c cm cn Q, fun cls d σ' H' x => ?_, rfl, hc, h⟩
    rcases x with x | x
    · obtain ⟨C, dd, fs, tag, v, rfl, rfl, ex, hd, T, ht, l, fo, hq⟩ := x
      refine ⟨true, ex, fun _ ax na hl => ?_, fun z => by cases z⟩
      have hs1 : (List.set σ' 1 (some (V.ref ax)))[1]? = some (some (V.ref ax)) := by
        rw [List.getElem?_set_self]
        have hl : σ'.length = 2 := hl
        omega
      have e1 : Same H' (upd H' ax (excT ax (.ref C) (some dd))) := same_new na
      have ea : upd H' ax (excT ax (.ref C) (some dd)) ax = some (excT ax (.ref C) (some dd)) := upd_same
      have ed : upd H' ax (excT ax (.ref C) (some dd)) dd = some (.xd fs) := e1 _ _ hd
      refine ⟨.ref ax, hs1, ax, C, dd, fs, .str tag, rfl, ea, T, ht, ed, l, .ref ax, hs1, ?_⟩
      refine ⟨ax, C, dd, fs, tag, v, rfl, ea, T, ht, ed, l, fo, fun H2 e2 => ⟨by show 2 ≤ sizeLine; decide, fun p hp => ?_⟩⟩
      exact hq H2 (e1.trans e2) p hp
    · obtain ⟨C, dd, fs, tag, rfl, rfl, x1, x2, x3, hd, T, ht, l, hq⟩ := x
      refine ⟨false, x1, fun z => (by cases z), fun _ => ⟨false, x2, fun z => (by cases z), fun _ => ⟨true, x3, fun _ ax na hl => ?_, fun z => by cases z⟩⟩⟩
      have hs1 : (List.set σ' 1 (some (V.ref ax)))[1]? = some (some (V.ref ax)) := by
        rw [List.getElem?_set_self]
        have hl : σ'.length = 2 := hl
        omega
      have e1 : Same H' (upd H' ax (excT ax (.ref C) (some dd))) := same_new na
      exact ⟨.ref ax, hs1, ax, C, dd, fs, .str tag, rfl, upd_same, T, ht, e1 _ _ hd, l, by show 2 ≤ sizeLine; decide, fun p hp => hq _ e1 p hp⟩
end Bx
-- needs lists
/-! the law's bag of draws -/
namespace Bx
open PySem PySem.Spec PyProof.Rows L2
structure Bag (H : Hp) (b : Addr) : Prop where
  ex : ∃ (c : Addr) (xs : List Int) (i hold seed : Int), H b = some (.lst [.ref c, .int i, .int hold, .int seed]) ∧ H c = some (.lst (xs.map V.int)) ∧ b ≠ c ∧ xs.length ≤ 63 ∧ 0 ≤ i ∧ 0 ≤ hold ∧ 0 ≤ seed ∧ seed < 2147483647
theorem Bag.keep {H H' : Hp} {b : Addr} (B : Bag H b) (e : Same H H') : Bag H' b := by
  obtain ⟨c, xs, i, hold, seed, h1, h2, r⟩ := B.ex
  exact ⟨c, xs, i, hold, seed, e _ _ h1, e _ _ h2, r⟩
theorem Bag.at_ {H : Hp} {b : Addr} (B : Bag H b) : ∃ o, H b = some o := by
  obtain ⟨c, xs, i, hold, seed, h1, _⟩ := B.ex
  exact ⟨_, h1⟩
theorem Bag.ne {H : Hp} {b p : Addr} (B : Bag H b) (h : H p = none) : p ≠ b := fun e => by
  obtain ⟨o, q⟩ := B.at_
  rw [← e, h] at q
  cases q
/-- a tuple is not the bag -/
theorem Bag.neT {H : Hp} {b p : Addr} {xs : List V} (B : Bag H b) (h : H p = some (.tup xs)) : p ≠ b := fun e => by
  obtain ⟨c, ys, i, hold, seed, h1, _⟩ := B.ex
  rw [e, h1] at h
  cases h
theorem emod_bd (x : Int) {m : Int} (h : 0 < m) : 0 ≤ x % m ∧ x % m < m := ⟨Int.emod_nonneg x (by omega), Int.emod_lt_of_pos x h⟩
end Bx
namespace Bx
open PySem PySem.Spec PyProof.Rows L2
/-- a tuple stays behind a draw -/
theorem Bag.seqT {K : PySem.W.Frag} {H H' : Hp} {b a : Addr} {xs : List V} (B : Bag H b) (e : Kp b H H') (h : SqT K H a xs) : SqT K H' a xs := by
  have nb : ∀ o, H a = some o → (∀ ys, o ≠ .lst ys) → a ≠ b := fun o q n z => by
    obtain ⟨c, ys, i, hold, seed, h1, _⟩ := B.ex
    rw [z, h1] at q
    exact n _ (Option.some.inj q).symm
  rcases h with (h | ⟨o, h⟩) | h
  · exact .inl (.inl (e _ _ (nb _ h fun _ z => by cases z) h))
  · exact .inl (.inr ⟨o, e _ _ (nb _ h fun _ z => by cases z) h⟩)
  · exact .inr h
end Bx
-- needs deep
namespace Bx
open PySem PySem.Spec PyProof.Rows L2
theorem Bag.sameT {H H' : Hp} {b : Addr} (B : Bag H b) (e : Kp b H H') : SameT H H' := fun a o q n => by
  refine e a o (fun z => ?_) q
  obtain ⟨c, ys, i, hold, seed, h1, _⟩ := B.ex
  rw [z, h1] at q
  exact n _ (Option.some.inj q).symm
/-- another list changes: not the one of the script's numbers -/
theorem Bag.other {H : Hp} {b D c : Addr} {r : List V} {o : HO} (B : Bag H b) (hc : H b = some (.lst (.ref c :: r))) (nb : D ≠ b) (n : c ≠ D) : Bag (L2.upd H D o) b := by
  obtain ⟨c', xs, i, hold, seed, h1, h2, h3⟩ := B.ex
  rw [hc] at h1
  cases h1
  exact ⟨c, xs, i, hold, seed, by rw [upd_ne nb.symm]; exact hc, by rw [upd_ne n]; exact h2, h3⟩
theorem Bag.inn {H : Hp} {b : Addr} (B : Bag H b) : ∃ c r, H b = some (.lst (.ref c :: r)) ∧ ∃ o, H c = some o := by
  obtain ⟨c, xs, i, hold, seed, h1, h2, _⟩ := B.ex
  exact ⟨c, _, h1, _, h2⟩
end Bx
namespace Bx
open PySem PySem.Spec PyProof.Rows L2
def axS (ax : Bool) : Str := if ax = true then "x" else "y"
end Bx
-- needs deep
/-! data stays where instances alone change -/
namespace Bx
open PySem PySem.Spec PyProof.Rows L2
def SameI (H H' : Hp) : Prop := ∀ a o, H a = some o → (∀ C dx fs, o ≠ .ins C dx fs) → H' a = some o
theorem SameI.put {H : Hp} {a C dx : Addr} {fs : List (Str × V)} {o : HO} (h : H a = some (.ins C dx fs)) : SameI H (L2.upd H a o) := fun b u q n => by
  have nb : b ≠ a := fun z => by
    rw [z, h] at q
    exact n _ _ _ (Option.some.inj q).symm
  rw [upd_ne nb]
  exact q
theorem SameI.seqT {K : PySem.W.Frag} {H H' : Hp} {a : Addr} {xs : List V} (e : SameI H H') (h : SqT K H a xs) : SqT K H' a xs := by
  rcases h with (h | ⟨o, h⟩) | h
  · exact .inl (.inl (e _ _ h fun _ _ _ z => by cases z))
  · exact .inl (.inr ⟨o, e _ _ h fun _ _ _ z => by cases z⟩)
  · exact .inr h
theorem SameI.seqL {K : PySem.W.Frag} {H H' : Hp} {a : Addr} {xs : List V} (e : SameI H H') (h : SqL K H a xs) : SqL K H' a xs := by
  rcases h with (h | ⟨o, h⟩) | h
  · exact .inl (.inl (e _ _ h fun _ _ _ z => by cases z))
  · exact .inl (.inr ⟨o, e _ _ h fun _ _ _ z => by cases z⟩)
  · exact .inr h
mutual
theorem Dp.sameI {K : PySem.W.Frag} {H H' : Hp} (e : SameI H H') : ∀ {d : PyData} {v : V}, Dp K H v d → Dp K H' v d
  | .none, _, h => by cases h; exact .non
  | .bool _, _, h => by cases h; exact .bl _
  | .int _, _, h => by cases h; exact .int _
  | .str _, _, h => by cases h; exact .str _
  | .list _, _, h => by
    cases h with
    | lst hs ha => exact .lst (e.seqL hs) (Dp.sameIs e ha)
  | .tuple _, _, h => by
    cases h with
    | tup hs ha => exact .tup (e.seqT hs) (Dp.sameIs e ha)
  | .dict _, _, h => by cases h
theorem Dp.sameIs {K : PySem.W.Frag} {H H' : Hp} (e : SameI H H') : ∀ {ds : List PyData} {vs : List V}, DpAll K H vs ds → DpAll K H' vs ds
  | [], _, h => by cases h; exact .nil
  | _ :: _, _, h => by
    cases h with
    | cons h1 h2 => exact .cons (Dp.sameI e h1) (Dp.sameIs e h2)
end
end Bx
-- needs lists deep tables
-- imports HandS.IsInst
/-! values of any kind: what the checks say of them -/
namespace Bx
open PySem PySem.Spec PyProof.Rows L2
def tyD : PyData → String
  | .none => "NoneType"
  | .bool _ => "bool"
  | .int _ => "int"
  | .str _ => "str"
  | .list _ => "list"
  | .tuple _ => "tuple"
  | .dict _ => "dict"
theorem Dp.tyx {K : PySem.W.Frag} {H : Hp} {v : V} {d : PyData} (h : Dp K H v d) : TyX K H v (.type (tyD d)) := by
  cases h with
  | non => exact .base .non
  | bl b => exact .base (.bl b)
  | int i => exact .base (.int i)
  | str x => exact .base (.str x)
  | lst h1 _ => exact tyL h1
  | tup h1 _ => exact tyT h1
def isBoolD : PyData → Bool
  | .bool _ => true
  | _ => false
def isIntD : PyData → Bool
  | .int _ => true
  | _ => false
def isTupD : PyData → Bool
  | .tuple _ => true
  | _ => false
/-- isinstance(v, int), isinstance(v, bool), isinstance(v, tuple) -/
theorem kit_int : ∀ d : PyData, kitB (tyD d) "int" = some (isIntD d || isBoolD d)
  | .none => (show kitB "NoneType" "int" = some false by decide +kernel)
  | .bool _ => (show kitB "bool" "int" = some true by decide +kernel)
  | .int _ => (show kitB "int" "int" = some true by decide +kernel)
  | .str _ => (show kitB "str" "int" = some false by decide +kernel)
  | .list _ => (show kitB "list" "int" = some false by decide +kernel)
  | .tuple _ => (show kitB "tuple" "int" = some false by decide +kernel)
  | .dict _ => (show kitB "dict" "int" = some false by decide +kernel)
theorem kit_bool : ∀ d : PyData, kitB (tyD d) "bool" = some (isBoolD d)
  | .none => (show kitB "NoneType" "bool" = some false by decide +kernel)
  | .bool _ => (show kitB "bool" "bool" = some true by decide +kernel)
  | .int _ => (show kitB "int" "bool" = some false by decide +kernel)
  | .str _ => (show kitB "str" "bool" = some false by decide +kernel)
  | .list _ => (show kitB "list" "bool" = some false by decide +kernel)
  | .tuple _ => (show kitB "tuple" "bool" = some false by decide +kernel)
  | .dict _ => (show kitB "dict" "bool" = some false by decide +kernel)
theorem kit_tup : ∀ d : PyData, kitB (tyD d) "tuple" = some (isTupD d)
  | .none => (show kitB "NoneType" "tuple" = some false by decide +kernel)
  | .bool _ => (show kitB "bool" "tuple" = some false by decide +kernel)
  | .int _ => (show kitB "int" "tuple" = some false by decide +kernel)
  | .str _ => (show kitB "str" "tuple" = some false by decide +kernel)
  | .list _ => (show kitB "list" "tuple" = some false by decide +kernel)
  | .tuple _ => (show kitB "tuple" "tuple" = some true by decide +kernel)
  | .dict _ => (show kitB "dict" "tuple" = some false by decide +kernel)
theorem isTup_of {K : PySem.W.Frag} {H : Hp} {v : V} {d : PyData} (h : Dp K H v d) (e : isTupD d = true) : ∃ a xs ds, v = .ref a ∧ d = .tuple ds ∧ SqT K H a xs ∧ DpAll K H xs ds := by
  cases h with
  | tup h1 h2 => exact ⟨_, _, _, rfl, rfl, h1, h2⟩
  | _ => cases e
theorem isInt_of {K : PySem.W.Frag} {H : Hp} {v : V} {d : PyData} (h : Dp K H v d) (e : isIntD d = true) : ∃ i, v = .int i ∧ d = .int i := by
  cases h with
  | int i => exact ⟨i, rfl, rfl⟩
  | _ => cases e
/-- a number of one of n rows -/
def lenD : PyData → Nat
  | .tuple ds => ds.length
  | _ => 0
/-- a number of one of n rows -/
def spotD (n : Nat) : PyData → Bool
  | .int i => decide (0 ≤ i) && decide (i < (n : Int))
  | _ => false
/-- n booleans -/
def truthsD (n : Nat) : PyData → Bool
  | .tuple ds => decide (ds.length = n) && ds.all isBoolD
  | _ => false
def rowOkD (n : Nat) : PyData → Bool
  | .tuple ds => match ds with
    | [a, b, c] => isBoolD c && (spotD n a && spotD n b)
    | _ => false
  | _ => false
def inMod (i : Int) : Bool := decide (i = 1) || decide (i = 2) || decide (i = 3) || decide (i = 6)
def startsD (m : Int) (n : Nat) : PyData → Bool
  | .tuple ds => decide ((ds.length : Int) = m) && ds.all (spotD n)
  | _ => false
def tableD (m f s b r : PyData) : Bool := match m with
  | .int i => inMod i && (truthsD i.toNat f && (truthsD i.toNat s && match r with
    | .tuple rs => rs.all (rowOkD rs.length) && startsD i rs.length b
    | _ => false))
  | _ => false
theorem truths_ok (l : List Bool) : truthsD l.length (boolsD l) = true := by
  unfold boolsD truthsD
  dsimp only
  rw [decide_eq_true (by rw [List.length_map])]
  rw [Bool.true_and, List.all_map]
  exact List.all_eq_true.mpr fun _ _ => rfl
theorem spot_ok {n c : Nat} (h : c < n) : spotD n (.int (c : Int)) = true := by
  unfold spotD
  dsimp only
  rw [decide_eq_true (show (0 : Int) ≤ (c : Int) by omega), decide_eq_true (show (c : Int) < (n : Int) by omega)]
  rfl
theorem inMod_ok {m : Nat} (h : m = 1 ∨ m = 2 ∨ m = 3 ∨ m = 6) : inMod (m : Int) = true := by
  rcases h with e | e | e | e <;> subst e <;> decide
theorem tableD_ok {t : Tb} (ok : Tok t) : tableD (.int (t.m : Int)) (boolsD t.flats) (boolsD t.steeps) (natsD t.starts) (rowsD t.rows) = true := by
  unfold tableD
  have e1 : ((t.m : Int)).toNat = t.m := by omega
  have h1 : truthsD t.m (boolsD t.flats) = true := by rw [← ok.fl]; exact truths_ok _
  have h2 : truthsD t.m (boolsD t.steeps) = true := by rw [← ok.sl]; exact truths_ok _
  dsimp only
  rw [e1, inMod_ok ok.md, h1, h2]
  unfold rowsD
  dsimp only
  have h3 : (t.rows.map rowD).all (rowOkD (t.rows.map rowD).length) = true := by
    rw [List.all_map, List.length_map]
    refine List.all_eq_true.mpr fun r hr => ?_
    show rowOkD t.rows.length (rowD r) = true
    unfold rowD rowOkD
    dsimp only
    rw [spot_ok (ok.rw1 r hr), spot_ok (ok.rw2 r hr)]
    rfl
  rw [h3]
  unfold natsD startsD
  dsimp only
  rw [List.length_map, ok.tl, decide_eq_true rfl, List.length_map, List.all_map]
  have h4 : t.starts.all (spotD t.rows.length ∘ fun n : Nat => PyData.int (n : Int)) = true := List.all_eq_true.mpr fun c hc => spot_ok (ok.st c hc)
  rw [h4]
  rfl
theorem inMod_eq (i : Int) : inV (V.int i) [V.int 1, V.int 2, V.int 3, V.int 6] = inMod i := by
  by_cases h1 : i = 1
  · subst h1; decide +kernel
  · by_cases h2 : i = 2
    · subst h2; decide +kernel
    · by_cases h3 : i = 3
      · subst h3; decide +kernel
      · by_cases h6 : i = 6
        · subst h6; decide +kernel
        · unfold inMod
          rw [decide_eq_false h1, decide_eq_false h2, decide_eq_false h3, decide_eq_false h6]
          have ne : ∀ {j : Int}, ¬ i = j → eqV (V.int j) (V.int i) = false := fun {j} h => by
            unfold eqV
            simp [h, Ne.symm h]
            try omega
          simp [inV, ne h1, ne h2, ne h3, ne h6]
theorem inMod_nat {i : Int} (h : inMod i = true) : ∃ n : Nat, i = (n : Int) ∧ n ≤ 6 := by
  unfold inMod at h
  simp only [Bool.or_eq_true, decide_eq_true_eq] at h
  exact ⟨i.toNat, by omega, by omega⟩
end Bx
-- needs odd pairs
/-! runs, bottoms, divisors of any kind -/
namespace Bx
open PySem PySem.Spec PyProof.Rows L2
def flatPD : PyData → Bool
  | .none => true
  | .bool _ => true
  | .int _ => true
  | .str _ => true
  | _ => false
theorem flat_of {K : PySem.W.Frag} {H : Hp} {v : V} {d : PyData} (h : Dp K H v d) (f : flatPD d = true) : flatV v = true := by
  cases h <;> first | rfl | cases f
def inS (l : List Str) : PyData → Bool
  | .str s => inV (.str s) (l.map V.str)
  | _ => false
theorem inS_of {K : PySem.W.Frag} {H : Hp} {v : V} {d : PyData} (h : Dp K H v d) (f : flatPD d = true) (l : List Str) : inV v (l.map V.str) = inS l d := by
  cases h with
  | str s => rfl
  | lst _ _ => cases f
  | tup _ _ => cases f
  | _ =>
    exact List.any_eq_false.mpr fun y hy => by
      obtain ⟨x, _, rfl⟩ := List.mem_map.mp hy
      exact Bool.false_ne_true
def posD : PyData → Bool
  | .int i => decide (1 ≤ i)
  | _ => false
def runFl : PyData → Bool
  | .tuple ds => match ds with
    | [a, _] => flatPD a
    | _ => true
  | _ => true
def runOkD : PyData → Bool
  | .tuple ds => match ds with
    | [a, b] => inS ["X", "Y"] a && posD b
    | _ => false
  | _ => false
theorem runOk_run (r : Bool × Nat) : runOkD (runD r) = decide (1 ≤ r.2) := by
  obtain ⟨c, n⟩ := r
  show (inS ["X", "Y"] (.str (letS c)) && decide ((1 : Int) ≤ (n : Int))) = decide (1 ≤ n)
  have e : inS ["X", "Y"] (.str (letS c)) = true := by cases c <;> decide +kernel
  rw [e, Bool.true_and]
  exact decide_eq_decide.mpr ⟨fun h => by omega, fun h => by omega⟩
theorem runFl_run (r : Bool × Nat) : runFl (runD r) = true := rfl
theorem DpAll.two {K : PySem.W.Frag} {H : Hp} {xs : List V} {ds : List PyData} (h : DpAll K H xs ds) (e : xs.length = 2) : ∃ x y a b, xs = [x, y] ∧ ds = [a, b] ∧ Dp K H x a ∧ Dp K H y b := by
  cases h with
  | nil => cases e
  | cons h1 h =>
    cases h with
    | nil => cases e
    | cons h2 h =>
      cases h with
      | nil => exact ⟨_, _, _, _, rfl, rfl, h1, h2⟩
      | cons h4 h => cases e
theorem runOk_len {ds : List PyData} (h : ds.length ≠ 2) : runOkD (.tuple ds) = false := by
  unfold runOkD
  match ds, h with
  | [], _ => rfl
  | [_], _ => rfl
  | [_, _], h => exact absurd rfl h
  | _ :: _ :: _ :: _, _ => rfl
end Bx
-- needs lists
-- imports HandS.TupMul
/-! tuple * n, n at least 1 (tuple * 1 is the tuple itself) -/
namespace Bx
open PySem PySem.Spec PyProof.Rows L2
theorem tuple_mul1 (l : Addr) (items : Array Value) (n : Nat) (dd : Option Addr) (sl : Array (Option Value)) (u : PySem.Tok) :
    Meets (Builtin.«tuple.__mul__» ⟨[.ref l, .int 1 u], []⟩) (fun _ R s => s.heap.get? l = some { cls := .type "tuple", dict := dd, data := .seq items n, slots := sl } ∧ R (.ok (.ret (Value.ref l))) s) :=
  .of_wp fun prog w A R s h => by
    obtain ⟨hp, g, d, tk, os⟩ := s
    obtain ⟨hl, h⟩ := h
    have f1 := AutoSeq1.idx_int
    have c0 : (decide ((1 : Int) < -(2 ^ 63)) || decide ((1 : Int) ≥ 2 ^ 63)) = false := by decide
    have c1 : (items.isEmpty || (1 : Int) == 1) = true := by rw [show ((1 : Int) == 1) = true from rfl, Bool.or_true]
    wp_walk using wpAny_loadPart' hl
    repeat (first
      | (refine wpAny_ite_false (decide_eq_false (by rw [c0]; exact Bool.false_ne_true)) ?_; wp_walk using wpAny_loadPart' hl)
      | (refine wpAny_ite_true (decide_eq_true c1) ?_; wp_walk using wpAny_loadPart' hl))
    exact ⟨_, rfl, h⟩
def rRepTA (K : PySem.W.Frag) : R2 := fun x y H Q => ∃ l k xs, x = .ref l ∧ y = .int k ∧ SqT K H l xs ∧ xs ≠ [] ∧ 1 ≤ k ∧ k ≤ 1000 ∧ xs.length ≤ 1000 ∧ (k = 1 → Q (.ref l) H) ∧ (2 ≤ k → ∀ p, H p = none → Q (.ref p) (upd H p (.tup (List.replicate k.toNat xs).flatten)))
theorem op_repTA {X : Cx} : OpR X (binaryOp .Mult) (rRepTA X.K) := by
  intro pins s σ H x y v u Q I rx ry h
  obtain ⟨l, k, xs, rfl, rfl, hT, hne, h1, h2, hz, q1, q2⟩ := h
  by_cases h3 : 2 ≤ k
  · exact op_repT pins s σ H _ _ v u Q I rx ry ⟨l, k, xs, rfl, rfl, hT, hne, h3, h2, hz, q2 h3⟩
  obtain rfl : k = 1 := by omega
  cases rx
  obtain ⟨t, rfl⟩ := ry
  obtain ⟨its, r, ⟨⟨cls, dd, data, sl⟩, ho, hc, n, hd⟩, hs⟩ := I.tuple hT
  simp only at hc hd
  subst hc hd
  refine wpAny_binaryOp_repeat_ref (T := "tuple") (U := "int") (by decide) ⟨_, ho, rfl⟩ (fun s' => typeIs_int s' 1 t) noFill_tuple_mul F.fills_int_mul F.slot_int_rmul repeat_tuple F.slot_int_index.lookup
    (call_meets F.slot_int_rmul (typeIs_int s 1 t) F.entry_int_rmul (F.args_int_rmul_2 _ _) (int_rmul_tuple 1 t l its.toArray n dd sl)
      ⟨ho, rfl, ⟨_, ho, rfl⟩, call_meets F.slot_tuple_mul ⟨_, ho, rfl⟩ F.entry_tuple_mul (F.args_tuple_mul_2 _ _) (tuple_mul1 l its.toArray n dd sl t) ⟨ho, ?_⟩⟩)
  exact ⟨.ref l, H, I, rfl, q1 rfl⟩
end Bx
-- needs odd tupmul bag
-- imports HandS.TupAny
/-! odd tables: lists of five parts that are no table -/
namespace Bx
open PySem PySem.Spec PyProof.Rows L2
theorem catA_ok {K : PySem.W.Frag} {H : Hp} {a b : Addr} {xs ys : List V} {Q : VK} (ha : SqT K H a xs) (hb : SqT K H b ys) (hz : xs.length + ys.length ≤ 100000) (k : ∀ q H', Same H H' → SqT K H' q (xs ++ ys) → Q (.ref q) H') : rCatA K (.ref a) (.ref b) H Q := by
  refine ⟨a, b, xs, ys, rfl, rfl, ha, hb, sz hz, fun e => ?_, fun _ e => ?_, fun _ _ p hp => ?_⟩
  · subst e
    exact k b H (Same.refl _) hb
  · subst e
    exact k a H (Same.refl _) (by rw [List.append_nil]; exact ha)
  · exact k p _ (same_new hp) (SqT.of upd_same)
theorem repTA_ok {K : PySem.W.Frag} {H : Hp} {a : Addr} {x : V} {n : Nat} {Q : VK} (ha : SqT K H a [x]) (h1 : 1 ≤ n) (h2 : n ≤ 1000) (k : ∀ q H', Same H H' → SqT K H' q (List.replicate n x) → Q (.ref q) H') : rRepTA K (.ref a) (.int (n : Int)) H Q := by
  refine ⟨a, n, [x], rfl, rfl, ha, by simp, by omega, by omega, by simp, fun e => ?_, fun _ p hp => ?_⟩
  · have : n = 1 := by omega
    subst this
    exact k a H (Same.refl _) ha
  · refine k p _ (same_new hp) (SqT.of ?_)
    rw [upd_same]
    have : ((n : Int)).toNat = n := by omega
    rw [this]
    have : ∀ n : Nat, (List.replicate n [x]).flatten = List.replicate n x := fun n => by
      induction n with
      | zero => rfl
      | succ n ih => rw [List.replicate_succ, List.flatten_cons, ih]; rfl
    rw [this]
theorem slA_any {K : PySem.W.Frag} {H : Hp} {a : Addr} {xs : List V} {lo hi : Option Int} {Q : VK} (hs : SqT K H a xs) (k : ∀ q H', Same H H' → SqT K H' q (cutV xs lo hi) → Q (.ref q) H') : rSlA K (.ref a) lo hi H Q := by
  refine ⟨a, xs, rfl, hs, fun w => ?_, fun w q hq => ?_⟩
  · have hw : cutV xs lo hi = xs := by
      unfold cutV
      rw [w.1, w.2, List.drop_zero, Nat.sub_zero, List.take_length]
    exact k a H (Same.refl _) (by rw [hw]; exact hs)
  · exact k q _ (same_new hq) (SqT.of upd_same)
theorem cut_to' {xs : List V} {n : Nat} (h : n ≤ xs.length) : cutV xs none (some (n : Int)) = xs.take n := by
  unfold cutV
  rw [HT.sIx_none, HT.sIx_nat, List.drop_zero, Nat.sub_zero, Nat.min_eq_left h]
theorem cut_last {xs : List V} (h : 0 < xs.length) : cutV xs none (some (-1)) = xs.take (xs.length - 1) := by
  unfold cutV
  rw [HT.sIx_none, List.drop_zero, Nat.sub_zero]
  congr 1
  simp only [HT.sIx]
  rw [if_pos (show (-1 : Int) < 0 by decide)]
  omega
theorem dpTake {K : PySem.W.Frag} {H : Hp} : ∀ {vs : List V} {ds : List PyData} (n : Nat), DpAll K H vs ds → DpAll K H (vs.take n) (ds.take n)
  | _, _, 0, _ => by rw [List.take_zero, List.take_zero]; exact .nil
  | _, _, _ + 1, .nil => .nil
  | _, _, n + 1, .cons h t => .cons h (dpTake n t)
theorem dpDrop {K : PySem.W.Frag} {H : Hp} : ∀ {vs : List V} {ds : List PyData} (n : Nat), DpAll K H vs ds → DpAll K H (vs.drop n) (ds.drop n)
  | _, _, 0, h => h
  | _, _, _ + 1, .nil => .nil
  | _, _, n + 1, .cons _ t => dpDrop n t
theorem dpRep {K : PySem.W.Frag} {H : Hp} {v : V} {d : PyData} (h : Dp K H v d) : ∀ n : Nat, DpAll K H (List.replicate n v) (List.replicate n d)
  | 0 => .nil
  | n + 1 => .cons h (dpRep h n)
theorem noLs_rep {d : PyData} (h : noL d = true) : ∀ n : Nat, noLs (List.replicate n d) = true
  | 0 => rfl
  | n + 1 => by rw [List.replicate_succ, noLs, h, noLs_rep h n]; rfl
theorem noLs_take : ∀ {ds : List PyData} (n : Nat), noLs ds = true → noLs (ds.take n) = true
  | _, 0, _ => by rw [List.take_zero]; rfl
  | [], _ + 1, _ => rfl
  | d :: ds, n + 1, h => by
    rw [noLs, Bool.and_eq_true] at h
    rw [List.take_succ_cons, noLs, h.1, noLs_take n h.2]; rfl
theorem noLs_drop : ∀ {ds : List PyData} (n : Nat), noLs ds = true → noLs (ds.drop n) = true
  | _, 0, h => h
  | [], _ + 1, _ => rfl
  | d :: ds, n + 1, h => by
    rw [noLs, Bool.and_eq_true] at h
    exact noLs_drop n h.2
theorem noLs_app : ∀ {ds es : List PyData}, noLs ds = true → noLs es = true → noLs (ds ++ es) = true
  | [], _, _, h => h
  | d :: ds, es, h, h2 => by
    rw [noLs, Bool.and_eq_true] at h
    rw [List.cons_append, noLs, h.1, noLs_app h.2 h2]; rfl
/-- five parts that are no table -/
def BadT (K : PySem.W.Frag) (H : Hp) (v : V) : Prop := ∃ dm df ds db dr : PyData, Dp K H v (.tuple [dm, df, ds, db, dr]) ∧ lenD dr ≤ 1000 ∧ lenD db ≤ 1000 ∧ noL (.tuple [dm, df, ds, db, dr]) = true ∧ tableD dm df ds db dr = false
theorem BadT.same {K : PySem.W.Frag} {H H' : Hp} {v : V} (e : Same H H') (h : BadT K H v) : BadT K H' v := by
  obtain ⟨dm, df, ds, db, dr, h1, r⟩ := h
  exact ⟨dm, df, ds, db, dr, Dp.same e h1, r⟩
theorem BadT.sameT {K : PySem.W.Frag} {H H' : Hp} {v : V} (e : SameT H H') (h : BadT K H v) : BadT K H' v := by
  obtain ⟨dm, df, ds, db, dr, h1, h2, h3, h4, h5⟩ := h
  exact ⟨dm, df, ds, db, dr, Dp.sameT e h4 h1, h2, h3, h4, h5⟩
theorem bad_new {K : PySem.W.Frag} {H : Hp} {p : Addr} {m f s b r : V} {dm df ds db dr : PyData} (h : H p = none) (hm : Dp K H m dm) (hf : Dp K H f df) (hs : Dp K H s ds) (hb : Dp K H b db) (hr : Dp K H r dr) (lr : lenD dr ≤ 1000) (lb : lenD db ≤ 1000)
    (nm : noL dm = true) (nf : noL df = true) (ns : noL ds = true) (nb : noL db = true) (nr : noL dr = true) (no : tableD dm df ds db dr = false) : BadT K (upd H p (.tup [m, f, s, b, r])) (.ref p) := by
  have e := same_new (o := .tup [m, f, s, b, r]) h
  refine ⟨dm, df, ds, db, dr, .tup (SqT.of upd_same) (.cons (Dp.same e hm) (.cons (Dp.same e hf) (.cons (Dp.same e hs) (.cons (Dp.same e hb) (.cons (Dp.same e hr) .nil))))), lr, lb, ?_, no⟩
  rw [noL, noLs, noLs, noLs, noLs, noLs, nm, nf, ns, nb, nr]
  rfl
theorem odd_cat {K : PySem.W.Frag} {H0 H1 HA : Hp} {D q D2 : Addr} {xs zs : List V} (hs : Same H0 H1) (hD : H1 D = some (.lst xs)) (hb : ∀ x ∈ xs, BadT K H1 x) (e : Same H1 HA) (hz : ∀ x ∈ zs, BadT K HA x) (hq : HA q = none) (h2 : upd HA q (.lst zs) D2 = none) :
    Same H0 (upd (upd HA q (.lst zs)) D2 (.lst (xs ++ zs))) ∧ upd (upd HA q (.lst zs)) D2 (.lst (xs ++ zs)) D2 = some (.lst (xs ++ zs)) ∧ ∀ x ∈ xs ++ zs, BadT K (upd (upd HA q (.lst zs)) D2 (.lst (xs ++ zs))) x := by
  have eq := same_new (o := .lst zs) hq
  have e2 := same_new (o := .lst (xs ++ zs)) h2
  refine ⟨((hs.trans e).trans eq).trans e2, upd_same, fun x hx => ?_⟩
  rcases List.mem_append.mp hx with z | z
  · exact (hb x z).same (e.trans (eq.trans e2))
  · exact (hz x z).same (eq.trans e2)
/-! why they are none -/
theorem no_f {i : Int} {f s b r : PyData} (h : truthsD i.toNat f = false) : tableD (.int i) f s b r = false := by simp [tableD, h]
theorem no_s {i : Int} {f s b r : PyData} (h : truthsD i.toNat s = false) : tableD (.int i) f s b r = false := by simp [tableD, h]
theorem no_r {i : Int} {f s b r : PyData} (h : isTupD r = false) : tableD (.int i) f s b r = false := by cases r <;> first | (simp [tableD]; done) | cases h
theorem no_row {i : Int} {f s b : PyData} {rs : List PyData} (h : rs.all (rowOkD rs.length) = false) : tableD (.int i) f s b (.tuple rs) = false := by simp [tableD, h]
theorem no_b {i : Int} {f s b : PyData} {rs : List PyData} (h : startsD i rs.length b = false) : tableD (.int i) f s b (.tuple rs) = false := by simp [tableD, h]
theorem truths_len {n : Nat} {ds : List PyData} (h : ds.length ≠ n) : truthsD n (.tuple ds) = false := by
  unfold truthsD
  dsimp only
  rw [decide_eq_false h]
  rfl
theorem starts_len {i : Int} {n : Nat} {ds : List PyData} (h : (ds.length : Int) ≠ i) : startsD i n (.tuple ds) = false := by
  unfold startsD
  dsimp only
  rw [decide_eq_false h]
  rfl
theorem starts_rep {m n : Nat} {d : PyData} (h0 : 0 < m) (h : spotD n d = false) : startsD (m : Int) n (.tuple (List.replicate m d)) = false := by
  unfold startsD
  dsimp only
  obtain ⟨m, rfl⟩ : ∃ k, m = k + 1 := ⟨m - 1, by omega⟩
  rw [List.replicate_succ, List.all_cons, h, Bool.false_and, Bool.and_false]
theorem truths_rep {m : Nat} {d : PyData} (h0 : 0 < m) (h : isBoolD d = false) : truthsD m (.tuple (List.replicate m d)) = false := by
  unfold truthsD
  dsimp only
  obtain ⟨m, rfl⟩ : ∃ k, m = k + 1 := ⟨m - 1, by omega⟩
  rw [List.replicate_succ, List.all_cons, h, Bool.false_and, Bool.and_false]
theorem starts_none {m : Nat} {l : List Nat} (h0 : 0 < m) : startsD (m : Int) 0 (natsD l) = false := by
  unfold natsD startsD
  dsimp only
  cases l with
  | nil =>
    rw [decide_eq_false (by show ¬ (((0 : Nat)) : Int) = (m : Int); omega)]
    rfl
  | cons a l =>
    have : spotD 0 (.int (a : Int)) = false := by
      unfold spotD
      dsimp only
      rw [decide_eq_false (show ¬ ((a : Int) < ((0 : Nat) : Int)) by omega), Bool.and_false]
    rw [List.map_cons, List.all_cons, this, Bool.false_and, Bool.and_false]
/-- a row that is none -/
def BadR (K : PySem.W.Frag) (H : Hp) (n : Nat) (v : V) : Prop := ∃ d, Dp K H v d ∧ noL d = true ∧ rowOkD n d = false
theorem BadR.same {K : PySem.W.Frag} {H H' : Hp} {n : Nat} {v : V} (e : Same H H') (h : BadR K H n v) : BadR K H' n v := by
  obtain ⟨d, h1, r⟩ := h
  exact ⟨d, Dp.same e h1, r⟩
theorem BadR.sameT {K : PySem.W.Frag} {H H' : Hp} {n : Nat} {v : V} (e : SameT H H') (h : BadR K H n v) : BadR K H' n v := by
  obtain ⟨d, h1, h2, h3⟩ := h
  exact ⟨d, Dp.sameT e h2 h1, h2, h3⟩
theorem badR_new {K : PySem.W.Frag} {H : Hp} {p : Addr} {n : Nat} {xs : List V} {ds : List PyData} (h : H p = none) (A : DpAll K H xs ds) (hn : noLs ds = true) (no : rowOkD n (.tuple ds) = false) : BadR K (upd H p (.tup xs)) n (.ref p) :=
  ⟨.tuple ds, .tup (SqT.of upd_same) (Dp.sameAll (same_new h) A), by rw [noL]; exact hn, no⟩
theorem dpB {K : PySem.W.Frag} {H : Hp} : ∀ l : List Bool, DpAll K H (l.map V.bl) (l.map PyData.bool)
  | [] => .nil
  | b :: l => .cons (.bl b) (dpB l)
theorem dpN {K : PySem.W.Frag} {H : Hp} : ∀ l : List Nat, DpAll K H (l.map fun n : Nat => V.int (n : Int)) (l.map fun n : Nat => PyData.int (n : Int))
  | [] => .nil
  | b :: l => .cons (.int _) (dpN l)
end Bx
-- needs odd oddrun oddT
/-! what is a condition, by its data -/
namespace Bx
open PySem PySem.Spec PyProof.Rows L2
def isStrD : PyData → Bool
  | .str _ => true
  | _ => false
theorem kit_str : ∀ d : PyData, kitB (tyD d) "str" = some (isStrD d)
  | .none => (show kitB "NoneType" "str" = some false by decide +kernel)
  | .bool _ => (show kitB "bool" "str" = some false by decide +kernel)
  | .int _ => (show kitB "int" "str" = some false by decide +kernel)
  | .str _ => (show kitB "str" "str" = some true by decide +kernel)
  | .list _ => (show kitB "list" "str" = some false by decide +kernel)
  | .tuple _ => (show kitB "tuple" "str" = some false by decide +kernel)
  | .dict _ => (show kitB "dict" "str" = some false by decide +kernel)
theorem isStr_of {K : PySem.W.Frag} {H : Hp} {v : V} {d : PyData} (h : Dp K H v d) (e : isStrD d = true) : ∃ z, v = .str z ∧ d = .str z := by
  cases h <;> first | exact ⟨_, rfl, rfl⟩ | cases e
def withinD (m : Int) : PyData → Bool
  | .int i => decide (0 ≤ i) && decide (i ≤ m)
  | _ => false
def partD : PyData → Bool
  | .int i => decide (0 ≤ i) && decide (i ≤ 30) && decide (0 < i)
  | _ => false
def axesS : List Str := ["x", "y"]
def signsS : List Str := ["<", "=", ">"]
def wordsS : List Str := ["not", "and", "or"]
def midD (b c : PyData) : Bool := match b with
  | .int m => (decide (m = 2) || decide (m = 3)) && withinD (m - 1) c
  | _ => false
def restD : List PyData → Bool
  | [a, b, c] => inS axesS a && midD b c
  | _ => false
def ratioD : List PyData → Bool
  | [a, b, c] => inS signsS a && (partD b && partD c)
  | _ => false
def zeroD : List PyData → Bool
  | [a] => inS axesS a
  | _ => false
def plainD (w : Str) (ds : List PyData) : Bool :=
  if w = "all" then ds.isEmpty else if w = "zero" then zeroD ds else if w = "rest" then restD ds else if w = "ratio" then ratioD ds else false
def validC : Nat → PyData → Bool
  | 0, _ => false
  | n + 1, .tuple (.str w :: ds) => if inS wordsS (.str w) = true then (if w = "not" ∧ ds.length ≠ 1 then false else ds.all (validC n)) else plainD w ds
  | _ + 1, _ => false
theorem validC_tup (n : Nat) (w : Str) (ds : List PyData) : validC (n + 1) (.tuple (.str w :: ds)) = if inS wordsS (.str w) = true then (if w = "not" ∧ ds.length ≠ 1 then false else ds.all (validC n)) else plainD w ds := rfl
theorem validC_no {n : Nat} {d : PyData} (h : ∀ w ds, d ≠ .tuple (.str w :: ds)) : validC n d = false := by
  match n, d with
  | 0, _ => rfl
  | n + 1, .tuple (.str w :: ds) => exact absurd rfl (h w ds)
  | n + 1, .none => rfl
  | n + 1, .bool _ => rfl
  | n + 1, .int _ => rfl
  | n + 1, .str _ => rfl
  | n + 1, .list _ => rfl
  | n + 1, .dict _ => rfl
  | n + 1, .tuple [] => rfl
  | n + 1, .tuple (.none :: _) => rfl
  | n + 1, .tuple (.bool _ :: _) => rfl
  | n + 1, .tuple (.int _ :: _) => rfl
  | n + 1, .tuple (.list _ :: _) => rfl
  | n + 1, .tuple (.tuple _ :: _) => rfl
  | n + 1, .tuple (.dict _ :: _) => rfl
theorem nc_0 (a : V) (xs : List V) : atI (a :: xs) 0 = some a := atI_nat (j := 0) rfl
theorem canAll_mem : ∀ {ds : List PyData}, PyData.canLayAll0 ds = true → ∀ d ∈ ds, d.canLay0 = true
  | [], _, d, h => absurd h List.not_mem_nil
  | x :: ds, hc, d, h => by
    rw [PyData.canLayAll0, Bool.and_eq_true] at hc
    rcases List.mem_cons.mp h with rfl | h
    · exact hc.1
    · exact canAll_mem hc.2 d h
theorem depth_mem : ∀ {ds : List PyData}, ∀ d ∈ ds, d.depth ≤ PyData.depthAll ds
  | [], d, h => absurd h List.not_mem_nil
  | x :: ds, d, h => by
    rw [PyData.depthAll]
    rcases List.mem_cons.mp h with rfl | h
    · exact Nat.le_max_left _ _
    · exact Nat.le_trans (depth_mem d h) (Nat.le_max_right _ _)
theorem shaped_parts {x : PyData} {ds : List PyData} (h : SeqAt.shaped (.tuple (x :: ds)) = true) : SeqAt.shaped (.list ds) = true ∧ ∀ d ∈ ds, SeqAt.shaped d = true := by
  have h1 := SeqAt.canLay_of_shaped h
  have h2 := SeqAt.depth_of_shaped h
  rw [PyData.canLay0, PyData.canLayAll0, Bool.and_eq_true] at h1
  rw [PyData.depth, PyData.depthAll] at h2
  have h3 := Nat.le_max_right x.depth (PyData.depthAll ds)
  refine ⟨?_, fun d hd => ?_⟩
  · unfold SeqAt.shaped
    rw [PyData.canLay0, h1.2, PyData.depth]
    show decide _ = true
    exact decide_eq_true (by omega)
  · unfold SeqAt.shaped
    rw [canAll_mem h1.2 d hd]
    have := depth_mem d hd
    show decide _ = true
    exact decide_eq_true (by omega)
end Bx
-- needs cond oddT deepI
/-! data without lists, of few levels -/
namespace Bx
open PySem PySem.Spec PyProof.Rows L2
structure TameD (k : Nat) (d : PyData) : Prop where
  lay : d.canLay0 = true
  dep : d.depth ≤ k
  nl : noL d = true
theorem canAll_of : ∀ {ds : List PyData}, (∀ d ∈ ds, d.canLay0 = true) → PyData.canLayAll0 ds = true
  | [], _ => rfl
  | d :: ds, h => by
    rw [PyData.canLayAll0, h d List.mem_cons_self, canAll_of fun x hx => h x (List.mem_cons_of_mem _ hx)]
    rfl
theorem depAll_of {k : Nat} : ∀ {ds : List PyData}, (∀ d ∈ ds, d.depth ≤ k) → PyData.depthAll ds ≤ k
  | [], _ => Nat.zero_le _
  | d :: ds, h => by
    rw [PyData.depthAll]
    exact Nat.max_le.mpr ⟨h d List.mem_cons_self, depAll_of fun x hx => h x (List.mem_cons_of_mem _ hx)⟩
theorem noLs_of : ∀ {ds : List PyData}, (∀ d ∈ ds, noL d = true) → noLs ds = true
  | [], _ => rfl
  | d :: ds, h => by
    rw [noLs, h d List.mem_cons_self, noLs_of fun x hx => h x (List.mem_cons_of_mem _ hx)]
    rfl
theorem tame_tup {k : Nat} {ds : List PyData} (h : ∀ d ∈ ds, TameD k d) : TameD (k + 1) (.tuple ds) := by
  refine ⟨?_, ?_, ?_⟩
  · rw [PyData.canLay0]
    exact canAll_of fun d hd => (h d hd).lay
  · rw [PyData.depth]
    have := depAll_of (k := k) fun d hd => (h d hd).dep
    omega
  · rw [noL]
    exact noLs_of fun d hd => (h d hd).nl
theorem tame_str {k : Nat} {z : Str} (h : PyData.canLay0 (.str z) = true) : TameD k (.str z) := ⟨h, Nat.zero_le _, rfl⟩
theorem tame_int (k : Nat) (i : Int) : TameD k (.int i) := ⟨rfl, Nat.zero_le _, rfl⟩
theorem tame_shaped {k : Nat} {d : PyData} (h : TameD k d) (hk : k ≤ 64) : SeqAt.shaped d = true := by
  unfold SeqAt.shaped
  rw [h.lay]
  have := h.dep
  show decide _ = true
  exact decide_eq_true (by omega)
end Bx
-- needs axs deepI tame
/-! programs: their lines by what they are, and as data -/
namespace Bx
open PySem PySem.Spec PyProof.Rows L2
inductive V3 | a | b | c
inductive O3 | less | equal | more
def V3.s : V3 → Str
  | .a => "a"
  | .b => "b"
  | .c => "c"
def V3.j : V3 → Nat
  | .a => 0
  | .b => 1
  | .c => 2
def O3.s : O3 → Str
  | .less => "less"
  | .equal => "equal"
  | .more => "more"
inductive Tst
  | ord (o : O3)
  | zero (ax : Bool)
  | holds (v : V3) (n : Nat)
  | rest (ax : Bool) (m r : Nat)
inductive Lin
  | add (ax : Bool)
  | take (ax : Bool)
  | set (v : V3) (n : Nat)
  | test (t : Tst) (n : Nat)
  | choose (n : Nat)
  | go (n : Nat)
  | stop (z : Str)
def Tst.w : Tst → Str
  | .ord o => o.s
  | .zero _ => "zero"
  | .holds _ _ => "holds"
  | .rest _ _ _ => "rest"
def Tst.ds : Tst → List PyData
  | .ord _ => []
  | .zero ax => [.str (axS ax)]
  | .holds v n => [.str v.s, .int (n : Int)]
  | .rest ax m r => [.str (axS ax), .int (m : Int), .int (r : Int)]
def Tst.d (t : Tst) : PyData := .tuple (.str t.w :: t.ds)
def Lin.w : Lin → Str
  | .add _ => "add"
  | .take _ => "take"
  | .set _ _ => "set"
  | .test _ _ => "if"
  | .choose _ => "choose"
  | .go _ => "go"
  | .stop _ => "stop"
def Lin.ds : Lin → List PyData
  | .add ax => [.str (axS ax)]
  | .take ax => [.str (axS ax)]
  | .set v n => [.str v.s, .int (n : Int)]
  | .test t n => [t.d, .int (n : Int)]
  | .choose n => [.int (n : Int)]
  | .go n => [.int (n : Int)]
  | .stop z => [.str z]
def Lin.d (l : Lin) : PyData := .tuple (.str l.w :: l.ds)
def lowB (c : Nat) : Bool := decide (97 ≤ c) && decide (c ≤ 122)
/-- a name of small letters, not the word end -/
def nameB (z : Str) : Bool := decide (1 ≤ z.length) && decide (z.length ≤ 8) && z.cps.toList.all lowB
def Tst.Ok : Tst → Prop
  | .holds _ n => n ≤ 3
  | .rest _ m r => (m = 2 ∨ m = 3) ∧ r < m
  | _ => True
def Lin.Ok (many : Nat) : Lin → Prop
  | .set _ n => n ≤ 3
  | .test t n => t.Ok ∧ n ≤ many
  | .choose n => n ≤ many
  | .go n => n ≤ many
  | .stop z => nameB z = true ∧ z ≠ "end"
  | _ => True
theorem Tst.nl (t : Tst) : noL t.d = true := by cases t <;> rfl
theorem Lin.nl (l : Lin) : noL l.d = true := by
  cases l with
  | test t n =>
    show noLs [.str "if", t.d, .int (n : Int)] = true
    rw [noLs, noLs, t.nl]
    rfl
  | _ => rfl
theorem lin_nls (ls : List Lin) : noLs (ls.map Lin.d) = true := noLs_of fun d hd => by
  obtain ⟨l, _, rfl⟩ := List.mem_map.mp hd
  exact l.nl
/-! the parts in the heap -/
section
variable {K : PySem.W.Frag} {H : Hp}
theorem Dp.tst {v : V} {t : Tst} (h : Dp K H v t.d) : ∃ a us, v = .ref a ∧ SqT K H a (.str t.w :: us) ∧ DpAll K H us t.ds := by
  obtain ⟨a, xs, e, hS, hA⟩ := Dp.tup' h
  cases hA with
  | cons hx hr => cases hx; exact ⟨a, _, e, hS, hr⟩
theorem Dp.lin {v : V} {l : Lin} (h : Dp K H v l.d) : ∃ a us, v = .ref a ∧ SqT K H a (.str l.w :: us) ∧ DpAll K H us l.ds := by
  obtain ⟨a, xs, e, hS, hA⟩ := Dp.tup' h
  cases hA with
  | cons hx hr => cases hx; exact ⟨a, _, e, hS, hr⟩
theorem DpAll.one' {us : List V} {d : PyData} (h : DpAll K H us [d]) : ∃ u, us = [u] ∧ Dp K H u d := by
  cases h with
  | cons h1 h2 => cases h2; exact ⟨_, rfl, h1⟩
theorem DpAll.two' {us : List V} {d e : PyData} (h : DpAll K H us [d, e]) : ∃ u v, us = [u, v] ∧ Dp K H u d ∧ Dp K H v e := by
  cases h with
  | cons h1 h2 => cases h2 with
    | cons h3 h4 => cases h4; exact ⟨_, _, rfl, h1, h3⟩
theorem DpAll.three' {us : List V} {d e f : PyData} (h : DpAll K H us [d, e, f]) : ∃ u v w, us = [u, v, w] ∧ Dp K H u d ∧ Dp K H v e ∧ Dp K H w f := by
  cases h with
  | cons h1 h2 => cases h2 with
    | cons h3 h4 => cases h4 with
      | cons h5 h6 => cases h6; exact ⟨_, _, _, rfl, h1, h3, h5⟩
theorem Dp.strE {v : V} {z : Str} (h : Dp K H v (.str z)) : v = .str z := by cases h; rfl
theorem Dp.intE {v : V} {i : Int} (h : Dp K H v (.int i)) : v = .int i := by cases h; rfl
end
theorem at_0 (a : V) (xs : List V) : atI (a :: xs) 0 = some a := atI_nat (j := 0) rfl
theorem at_1 (a b : V) (xs : List V) : atI (a :: b :: xs) 1 = some b := atI_nat (j := 1) rfl
theorem at_2 (a b c : V) (xs : List V) : atI (a :: b :: c :: xs) 2 = some c := atI_nat (j := 2) rfl
theorem at_3 (a b c d : V) (xs : List V) : atI (a :: b :: c :: d :: xs) 3 = some d := atI_nat (j := 3) rfl
/-- what a test says of two numbers and three values -/
def Tst.tru (t : Tst) (x y : Nat) (vs : List Nat) : Bool := match t with
  | .ord .less => decide (x < y)
  | .ord .equal => decide (x = y)
  | .ord .more => decide (y < x)
  | .zero ax => decide ((if ax = true then x else y) = 0)
  | .holds v n => decide ((vs[v.j]?).getD 0 = n)
  | .rest ax m r => decide ((if ax = true then x else y) % m = r)
/-- an object that H does not know -/
theorem Kp.mut {b l : Addr} {H H' : Hp} {o : HO} (e : Kp b H H') (hl : H l = none) (n : l ≠ b) : Kp b H (L2.upd H' l o) := ⟨fun a u na h => by rw [upd_ne (ne_of_none h hl)]; exact e.kp a u na h, fun c r h => by
  obtain ⟨r', h'⟩ := e.inn c r h
  exact ⟨r', by rw [upd_ne n.symm]; exact h'⟩⟩
/-! the words, told apart by their numbers -/
def wordsL (i : Fin 7) : Str := match i with
  | 0 => "add"
  | 1 => "take"
  | 2 => "set"
  | 3 => "if"
  | 4 => "choose"
  | 5 => "go"
  | 6 => "stop"
def Lin.wi : Lin → Fin 7
  | .add _ => 0
  | .take _ => 1
  | .set _ _ => 2
  | .test _ _ => 3
  | .choose _ => 4
  | .go _ => 5
  | .stop _ => 6
theorem Lin.w_eq (l : Lin) : l.w = wordsL l.wi := by cases l <;> rfl
theorem wordsL_is : ∀ i j : Fin 7, decide (V.str (wordsL i) = V.str (wordsL j)) = decide (i = j) := by decide +kernel
theorem Lin.w_is (l : Lin) (j : Fin 7) : decide (V.str l.w = V.str (wordsL j)) = decide (l.wi = j) := by rw [l.w_eq]; exact wordsL_is _ _
theorem wordsL_in2 : ∀ i j k : Fin 7, inV (V.str (wordsL i)) [V.str (wordsL j), V.str (wordsL k)] = decide (i = j ∨ i = k) := by decide +kernel
theorem Lin.w_in2 (l : Lin) (j k : Fin 7) : inV (V.str l.w) [V.str (wordsL j), V.str (wordsL k)] = decide (l.wi = j ∨ l.wi = k) := by rw [l.w_eq]; exact wordsL_in2 _ _ _
theorem wordsL_in3 : ∀ i j k m : Fin 7, inV (V.str (wordsL i)) [V.str (wordsL j), V.str (wordsL k), V.str (wordsL m)] = decide (i = j ∨ i = k ∨ i = m) := by decide +kernel
theorem Lin.w_in3 (l : Lin) (j k m : Fin 7) : inV (V.str l.w) [V.str (wordsL j), V.str (wordsL k), V.str (wordsL m)] = decide (l.wi = j ∨ l.wi = k ∨ l.wi = m) := by rw [l.w_eq]; exact wordsL_in3 _ _ _ _
def wordsT (i : Fin 6) : Str := match i with
  | 0 => "less"
  | 1 => "equal"
  | 2 => "more"
  | 3 => "zero"
  | 4 => "holds"
  | 5 => "rest"
def Tst.wi : Tst → Fin 6
  | .ord .less => 0
  | .ord .equal => 1
  | .ord .more => 2
  | .zero _ => 3
  | .holds _ _ => 4
  | .rest _ _ _ => 5
theorem Tst.w_eq (t : Tst) : t.w = wordsT t.wi := by
  cases t with
  | ord o => cases o <;> rfl
  | _ => rfl
theorem wordsT_is : ∀ i j : Fin 6, decide (V.str (wordsT i) = V.str (wordsT j)) = decide (i = j) := by decide +kernel
theorem Tst.w_is (t : Tst) (j : Fin 6) : decide (V.str t.w = V.str (wordsT j)) = decide (t.wi = j) := by rw [t.w_eq]; exact wordsT_is _ _
theorem wordsT_in2 : ∀ i j k : Fin 6, inV (V.str (wordsT i)) [V.str (wordsT j), V.str (wordsT k)] = decide (i = j ∨ i = k) := by decide +kernel
theorem Tst.w_in2 (t : Tst) (j k : Fin 6) : inV (V.str t.w) [V.str (wordsT j), V.str (wordsT k)] = decide (t.wi = j ∨ t.wi = k) := by rw [t.w_eq]; exact wordsT_in2 _ _ _
theorem axS_x (ax : Bool) : decide (V.str (axS ax) = V.str "x") = ax := by cases ax <;> decide +kernel
theorem deN (i j : Nat) : decide (V.int (i : Int) = V.int (j : Int)) = decide (i = j) := by
  by_cases z : i = j
  · rw [decide_eq_true z, deq (by omega)]
  · rw [decide_eq_false z, dne (by omega)]
theorem v3_lt (v : V3) : v.j < 3 := by cases v <;> decide
theorem v3_get {vs : List Nat} (h : vs.length = 3) (v : V3) : (vs.map fun n : Nat => V.int (n : Int))[v.j]? = some (.int (((vs[v.j]?).getD 0 : Nat) : Int)) := by
  have hj := v3_lt v
  rw [List.getElem?_map, List.getElem?_eq_getElem (by omega)]
  rfl
theorem v3_at (v : V3) : ([V.str "a", V.str "b", V.str "c"] : List V)[v.j]? = some (V.str v.s) := by cases v <;> rfl
theorem v3_eq (v : V3) : eqV (V.str v.s) (V.str v.s) = true := by cases v <;> decide +kernel
theorem v3_idx (v : V3) : ∀ (m : Nat) (z' : V), m < v.j → ([V.str "a", V.str "b", V.str "c"] : List V)[m]? = some z' → eqV z' (V.str v.s) = false := by
  intro m z hm hz
  cases v with
  | a => exact absurd hm (Nat.not_lt_zero _)
  | b =>
    have : m < 1 := hm
    obtain rfl : m = 0 := by omega
    cases hz
    decide +kernel
  | c =>
    have : m < 2 := hm
    have : m = 0 ∨ m = 1 := by omega
    rcases this with rfl | rfl
    · cases hz
      decide +kernel
    · cases hz
      decide +kernel
theorem nwTo {n j : Nat} (h : j < n) : ¬ (HT.sIx n 0 none = 0 ∧ HT.sIx n n (some (j : Int)) = n) := fun z => by
  have := z.2
  rw [HT.sIx_nat] at this
  omega
theorem nwFrom {n j : Nat} (h : 0 < j) (hn : 0 < n) : ¬ (HT.sIx n 0 (some (j : Int)) = 0 ∧ HT.sIx n n none = n) := fun z => by
  have := z.1
  rw [HT.sIx_nat] at this
  omega
theorem set_cut {vs : List Nat} {j n : Nat} (h : j < vs.length) : (vs.map fun n : Nat => V.int (n : Int)).take j ++ [V.int (n : Int)] ++ (vs.map fun n : Nat => V.int (n : Int)).drop (j + 1) = (vs.set j n).map fun n : Nat => V.int (n : Int) := by
  rw [List.set_eq_take_append_cons_drop, if_pos h, List.map_append, List.map_cons, List.map_take, List.map_drop]
  simp
theorem lin_at {K : PySem.W.Frag} {H : Hp} {us : List V} {ls : List Lin} {i : Nat} {z : V} (hA : DpAll K H us (ls.map Lin.d)) (hz : us[i]? = some z) : ∃ l, ls[i]? = some l ∧ Dp K H z l.d := by
  obtain ⟨d, hd, h⟩ := DpAll.get hA hz
  rw [List.getElem?_map] at hd
  obtain ⟨l, hl, rfl⟩ := Option.map_eq_some_iff.mp hd
  exact ⟨l, hl, h⟩
theorem free_same {H H' : Hp} {p : Addr} (e : Same H H') (h : H' p = none) : H p = none := by
  cases q : H p with
  | none => rfl
  | some o => rw [e _ _ q] at h; cases h
theorem v3_sat (v : V3) : (["a", "b", "c"] : List Str)[v.j]? = some v.s := by cases v <;> rfl
theorem v3_sne (v : V3) : ∀ m, m < v.j → (["a", "b", "c"] : List Str)[m]? ≠ some v.s := by
  intro m hm hz
  cases v with
  | a => exact absurd hm (Nat.not_lt_zero _)
  | b =>
    have : m < 1 := hm
    obtain rfl : m = 0 := by omega
    exact absurd (Option.some.inj hz) (by decide +kernel)
  | c =>
    have : m < 2 := hm
    have : m = 0 ∨ m = 1 := by omega
    rcases this with rfl | rfl
    · exact absurd (Option.some.inj hz) (by decide +kernel)
    · exact absurd (Option.some.inj hz) (by decide +kernel)
end Bx
-- needs prog clsrules clsint
/-! a program in the heap -/
namespace Bx
open PySem PySem.Spec PyProof.Rows L2
/-- an instance that holds its rows: a tuple of the values us, the lines ls -/
structure ProgAt (K : PySem.W.Frag) (H : Hp) (p : Addr) (us : List V) (ls : List Lin) : Prop where
  ex : ∃ dx rp, H p = some (.ins (He.ga K "Program") dx [("rows", .ref rp)]) ∧ H dx = some (.own p) ∧ SqT K H rp us
  dp : DpAll K H us (ls.map Lin.d)
  ok : ∀ x ∈ ls, x.Ok ls.length
  l0 : 0 < ls.length
  l1 : ls.length ≤ 60
theorem ProgAt.len {K : PySem.W.Frag} {H : Hp} {p : Addr} {us : List V} {ls : List Lin} (h : ProgAt K H p us ls) : us.length = ls.length := by
  have := DpAll.length h.dp
  rw [List.length_map] at this
  exact this
theorem ProgAt.same {K : PySem.W.Frag} {H H' : Hp} {p : Addr} {us : List V} {ls : List Lin} (e : Same H H') (h : ProgAt K H p us ls) : ProgAt K H' p us ls := by
  obtain ⟨dx, rp, h1, h2, h3⟩ := h.ex
  exact ⟨⟨dx, rp, e _ _ h1, e _ _ h2, seqT e h3⟩, Dp.sameAll e h.dp, h.ok, h.l0, h.l1⟩
theorem ProgAt.sameT {K : PySem.W.Frag} {H H' : Hp} {p : Addr} {us : List V} {ls : List Lin} (e : SameT H H') (h : ProgAt K H p us ls) : ProgAt K H' p us ls := by
  obtain ⟨dx, rp, h1, h2, h3⟩ := h.ex
  exact ⟨⟨dx, rp, e _ _ h1 (fun _ z => by cases z), e _ _ h2 (fun _ z => by cases z), e.seqT h3⟩, Dp.sameTs e (lin_nls ls) h.dp, h.ok, h.l0, h.l1⟩
end Bx
-- needs deepI lists tables
-- imports KE.KDictKeyed KE.KeyNested
/-! dicts whose keys are nested tuples -/
namespace Bx
open PySem PySem.Spec PyProof.Rows L2
mutual
def keyN : PyData → NestedKey
  | .none => .none
  | .bool b => .num (if b = true then 1 else 0)
  | .int i => .num i
  | .str z => .text z
  | .list _ => .none
  | .dict _ => .none
  | .tuple ds => .tup (keyNs ds)
def keyNs : List PyData → List NestedKey
  | [] => []
  | d :: ds => keyN d :: keyNs ds
end
section
variable {X : Cx} {pins : List (Addr × Obj)} {σ : L2.St} {H : Hp} {s : Shared}
mutual
theorem keyN_is (I : Inv X pins σ H s) : ∀ (d : PyData) (v : V) (u : Value), noL d = true → Dp X.K H v d → RelV v u → NestedIs s.heap (keyN d) u
  | .none, _, u, _, h, r => by cases h; obtain rfl : u = Value.none := r; exact .none
  | .bool b, _, u, _, h, r => by cases h; obtain rfl : u = Value.bool b := r; exact .bool rfl
  | .int i, _, u, _, h, r => by cases h; obtain ⟨t, rfl⟩ := (show ∃ t, u = Value.int i t from r); exact .int i t
  | .str z, _, u, _, h, r => by cases h; obtain ⟨t, rfl⟩ := (show ∃ t, u = Value.str z t from r); exact .text z t
  | .list _, _, _, n, _, _ => by cases n
  | .dict _, _, _, n, _, _ => by cases n
  | .tuple ds, _, u, n, h, r => by
    obtain ⟨a, xs, rfl, hS, hA⟩ := Dp.tup' h
    obtain rfl : u = Value.ref a := r
    obtain ⟨its, rv, ⟨o, h1, h2, m, h3⟩, _⟩ := I.tuple hS
    rw [keyN]
    exact .tup h1 h2 h3 (by rw [noL] at n; exact keyNs_is I ds xs its n hA rv)
theorem keyNs_is (I : Inv X pins σ H s) : ∀ (ds : List PyData) (vs : List V) (us : List Value), noLs ds = true → DpAll X.K H vs ds → Vals vs us → NestedAll s.heap (keyNs ds) us
  | [], _, _, _, h, r => by cases h; cases r; exact .nil
  | d :: ds, _, _, n, h, r => by
    rw [noLs, Bool.and_eq_true] at n
    cases h with
    | cons h1 h2 =>
      cases r with
      | cons r1 r2 =>
        rw [keyNs]
        exact .cons (keyN_is I d _ _ n.1 h1 r1) (keyNs_is I ds _ _ n.2 h2 r2)
end
end
/-- at b stands a tuple that is the key k -/
structure KeyA (K : PySem.W.Frag) (H : Hp) (k : NestedKey) (b : Addr) : Prop where
  ex : ∃ d, Dp K H (.ref b) d ∧ noL d = true ∧ keyN d = k ∧ k.depth ≤ 8
theorem KeyA.sameT {K : PySem.W.Frag} {H H' : Hp} {k : NestedKey} {b : Addr} (e : SameT H H') (h : KeyA K H k b) : KeyA K H' k b := by
  obtain ⟨d, h1, h2, h3⟩ := h.ex
  exact ⟨d, Dp.sameT e h2 h1, h2, h3⟩
abbrev EnN := NestedKey × Addr × V
def RelN (p : EnN) (q : NestedKey × Addr × Value) : Prop := p.1 = q.1 ∧ p.2.1 = q.2.1 ∧ RelV p.2.2 q.2.2
def dN (P : Program) (w : World) (a : Addr) (kvs : List EnN) : HO := .ext fun h => kvs.length ≤ sizeLine ∧ (a == sysModules) = false ∧ ∃ xs, Paired RelN kvs xs ∧ ∃ o es ep, h.get? a = some o ∧ o.ExactDict ∧ o.data = .dict es ep ∧ es.toList = xs.map (entryOfKey (nestedKind P w)) ∧ (xs.map (·.1)).Nodup
def hasN (kvs : List EnN) (k : NestedKey) : Bool := kvs.any fun p => decide (p.1 = k)
def getN (kvs : List EnN) (k : NestedKey) : Option V := (kvs.find? fun p => decide (p.1 = k)).map (·.2.2)
def putN (kvs : List EnN) (k : NestedKey) (b : Addr) (v : V) : List EnN := if hasN kvs k = true then kvs.map (fun p => if p.1 = k then (p.1, p.2.1, v) else p) else kvs ++ [(k, b, v)]
theorem relN_find {kvs : List EnN} {xs : List (NestedKey × Addr × Value)} (k : NestedKey) (r : Paired RelN kvs xs) : RelO (getN kvs k) ((atKey xs k).map (·.2)) ∧ (atKey xs k).isSome = hasN kvs k := by
  induction r with
  | nil => exact ⟨True.intro, rfl⟩
  | @cons p q ps qs h t ih =>
    unfold getN hasN atKey at ih ⊢
    rw [List.find?_cons, List.find?_cons, List.any_cons, ← h.1]
    by_cases c : p.1 = k
    · rw [decide_eq_true c]
      exact ⟨h.2.2, rfl⟩
    · rw [decide_eq_false c, Bool.false_or]
      exact ih
theorem relN_len {kvs : List EnN} {xs : List (NestedKey × Addr × Value)} (r : Paired RelN kvs xs) : kvs.length = xs.length := by
  induction r with
  | nil => rfl
  | cons _ _ ih => rw [List.length_cons, List.length_cons, ih]
theorem relN_app {kvs kvs' : List EnN} {xs xs' : List (NestedKey × Addr × Value)} (r : Paired RelN kvs xs) (r' : Paired RelN kvs' xs') : Paired RelN (kvs ++ kvs') (xs ++ xs') := by
  induction r with
  | nil => exact r'
  | cons h _ ih => exact .cons h ih
theorem relN_map {kvs : List EnN} {xs : List (NestedKey × Addr × Value)} (k : NestedKey) {v : V} {u : Value} (rv : RelV v u) (r : Paired RelN kvs xs) : Paired RelN (kvs.map (fun p => if p.1 = k then (p.1, p.2.1, v) else p)) (xs.map (putAt k u)) := by
  induction r with
  | nil => exact .nil
  | @cons p q ps qs h t ih =>
    rw [List.map_cons, List.map_cons]
    refine .cons ?_ ih
    unfold putAt
    rw [← h.1]
    by_cases c : p.1 = k
    · rw [if_pos c, if_pos c]
      exact ⟨rfl, h.2.1, rv⟩
    · rw [if_neg c, if_neg c]
      exact h
theorem relN_all {F : NestedKey → Addr → Prop} {kvs : List EnN} {xs : List (NestedKey × Addr × Value)} (r : Paired RelN kvs xs) : (∀ p ∈ kvs, F p.1 p.2.1) → ∀ x ∈ xs, F x.1 x.2.1 := by
  induction r with
  | nil => intro _ x hx; cases hx
  | @cons p q ps qs h t ih =>
    intro hk x hx
    rcases List.mem_cons.mp hx with rfl | hx
    · have := hk p List.mem_cons_self
      rw [h.1, h.2.1] at this
      exact this
    · exact ih (fun p hp => hk p (List.mem_cons_of_mem _ hp)) x hx
theorem relN_put {kvs : List EnN} {xs : List (NestedKey × Addr × Value)} (k : NestedKey) (b : Addr) {v : V} {u : Value} (rv : RelV v u) (r : Paired RelN kvs xs) : Paired RelN (putN kvs k b v) (storedH xs k b u) := by
  unfold putN storedH
  rw [(relN_find k r).2]
  split
  · exact relN_map k rv r
  · exact relN_app r (.cons ⟨rfl, rfl, rv⟩ .nil)
theorem putN_len (kvs : List EnN) (k : NestedKey) (b : Addr) (v : V) : (putN kvs k b v).length ≤ kvs.length + 1 := by
  unfold putN
  split
  · rw [List.length_map]; omega
  · rw [List.length_append]; exact Nat.le_refl _
section
variable {P : Program} {w : World}
theorem dN_ok {H : Hp} {h : Heap} {a : Addr} {kvs : List EnN} {xs : List (NestedKey × Addr × Value)} (z : kvs.length ≤ sizeLine) (hd : (a == sysModules) = false) (rel : Paired RelN kvs xs) (dd : h.DictOfH (nestedKind P w) a xs) : ObjOk P w H h a (dN P w a kvs) := by
  obtain ⟨o, es, ep, ho, h1, h2, h3, _, h5⟩ := dd
  exact ⟨⟨z, hd, xs, rel, o, es, ep, ho, h1, h2, h3, h5⟩, ⟨o, ho⟩, fun g1 g2 q k => by
    obtain ⟨z, hd, xs, rel, o, es, ep, ho, r⟩ := q
    exact ⟨z, hd, xs, rel, o, es, ep, k _ ho, r⟩⟩
theorem dN_tup {a : Addr} {kvs : List EnN} {xs : List V} : dN P w a kvs ≠ .tup xs := fun z => by
  have z' : HO.ext _ = HO.tup xs := z
  cases z'
theorem dN_lst {a : Addr} {kvs : List EnN} {xs : List V} : dN P w a kvs ≠ .lst xs := fun z => by
  have z' : HO.ext _ = HO.lst xs := z
  cases z'
end
section
variable {X : Cx} {pins : List (Addr × Obj)} {σ : L2.St} {H : Hp} {s : Shared}
theorem KeyA.is (I : Inv X pins σ H s) {k : NestedKey} {b : Addr} (h : KeyA X.K H k b) : (nestedKind X.prog X.w).is s.heap k b := by
  obtain ⟨d, h1, h2, rfl, h4⟩ := h.ex
  exact ⟨keyN_is I d _ _ h2 h1 rfl, h4⟩
theorem dN_at (I : Inv X pins σ H s) {a : Addr} {kvs : List EnN} (e : H a = some (dN X.prog X.w a kvs)) (hk : ∀ p ∈ kvs, KeyA X.K H p.1 p.2.1) : kvs.length ≤ sizeLine ∧ (a == sysModules) = false ∧ ∃ xs, Paired RelN kvs xs ∧ s.heap.DictOfH (nestedKind X.prog X.w) a xs := by
  have x : ObjOk X.prog X.w H s.heap a (.ext fun h => kvs.length ≤ sizeLine ∧ (a == sysModules) = false ∧ ∃ xs, Paired RelN kvs xs ∧ ∃ o es ep, h.get? a = some o ∧ o.ExactDict ∧ o.data = .dict es ep ∧ es.toList = xs.map (entryOfKey (nestedKind X.prog X.w)) ∧ (xs.map (·.1)).Nodup) := I.hok a _ e
  obtain ⟨⟨z, hd, xs, rel, o, es, ep, ho, h1, h2, h3, h5⟩, _⟩ := x
  exact ⟨z, hd, xs, rel, o, es, ep, ho, h1, h2, h3, relN_all (F := fun k b => (nestedKind X.prog X.w).is s.heap k b) rel fun p hp => (hk p hp).is I, h5⟩
end
section
variable {X : Cx} {o i e : Expr} {td ty tv : TE} {pos pos' : Pos}
theorem roomN {A : Around} (h : A.units + 64 < cLine) : (nestedKind X.prog X.w).room A.in1.in1 := by
  show A.in1.in1.units + 8 < cLine
  have : A.in1.in1.units = A.units + 2 := rfl
  omega
theorem roomN1 {A : Around} (h : A.units + 64 < cLine) : (nestedKind X.prog X.w).room A.in1 := by
  show A.in1.units + 8 < cLine
  have : A.in1.units = A.units + 1 := rfl
  omega
/-- t not in d; t in d -/
def tDInN (P : Program) (w : World) (K : PySem.W.Frag) (neg : Bool) (ty td : TE) : TE := fun σ H Q => ty σ H fun y H1 => td σ H1 fun x H2 => ∃ (a b : Addr) (kvs : List EnN) (k : NestedKey), x = .ref a ∧ y = .ref b ∧ H2 a = some (dN P w a kvs) ∧ (∀ p ∈ kvs, KeyA K H2 p.1 p.2.1) ∧ KeyA K H2 k b ∧ Q (.bl (if neg = true then !(hasN kvs k) else hasN kvs k)) H2
theorem pc_dnotinN (hu : X.A.units + 64 < cLine) (hi : PE X i ty) (ho : PE X o td) : PC X .NotIn i o (tDInN X.prog X.w X.K true ty td) := by
  refine ⟨fun pins s σ H Q I h => ?_⟩
  refine thn (hi.run pins s σ H _ I h) fun iv s1 ⟨y, H1, I1, ry, q1⟩ => thn (ho.run pins s1 σ H1 _ I1 q1) fun u s2 ⟨x, H2, I2, rx, a, b, kvs, k, ex, ey, g, hk, kb, q2⟩ => ?_
  subst ex ey
  obtain rfl : u = Value.ref a := rx
  obtain rfl : iv = Value.ref b := ry
  obtain ⟨z, hd, xs, rel, dd⟩ := dN_at I2 g hk
  refine wpAny_notIn_heap (roomN1 hu) (kb.is I2) hd dd ?_
  rw [(relN_find k rel).2]
  exact ⟨.bl _, H2, I2.tok _, rfl, q2⟩
theorem pc_dinN (hu : X.A.units + 64 < cLine) (hi : PE X i ty) (ho : PE X o td) : PC X .In i o (tDInN X.prog X.w X.K false ty td) := by
  refine ⟨fun pins s σ H Q I h => ?_⟩
  refine thn (hi.run pins s σ H _ I h) fun iv s1 ⟨y, H1, I1, ry, q1⟩ => thn (ho.run pins s1 σ H1 _ I1 q1) fun u s2 ⟨x, H2, I2, rx, a, b, kvs, k, ex, ey, g, hk, kb, q2⟩ => ?_
  subst ex ey
  obtain rfl : u = Value.ref a := rx
  obtain rfl : iv = Value.ref b := ry
  obtain ⟨z, hd, xs, rel, dd⟩ := dN_at I2 g hk
  refine wpAny_in_heap (roomN1 hu) (kb.is I2) hd dd ?_
  rw [(relN_find k rel).2]
  exact ⟨.bl _, H2, I2.tok _, rfl, q2⟩
/-- d[t] = v -/
def sDPutN (P : Program) (w : World) (K : PySem.W.Frag) (td ty tv : TE) : TS := fun D σ H => tv σ H fun v H1 => td σ H1 fun x H2 => ty σ H2 fun y H3 => ∃ (a b : Addr) (kvs : List EnN) (k : NestedKey), x = .ref a ∧ y = .ref b ∧ H3 a = some (dN P w a kvs) ∧ (∀ p ∈ kvs, KeyA K H3 p.1 p.2.1) ∧ KeyA K H3 k b ∧ kvs.length < sizeLine ∧ D.nx σ (upd H3 a (dN P w a (putN kvs k b v)))
theorem ps_dputN {value : Expr} (hu : X.A.units + 64 < cLine) (ho : PE X o td) (hi : PE X i ty) (hv : PE X value tv) (hs : swapsWith value (some (.Subscript o i pos')) pos.line X.env = pure false) :
    PS X (.Assign [.Subscript o i pos'] value pos) (sDPutN X.prog X.w X.K td ty tv) := by
  refine ⟨fun pins s σ H D I h => ?_⟩
  refine wpAny_Assign_Subscript (thn (hv.run pins s σ H _ I h) fun r s1 ⟨v, H1, I1, rv, q1⟩ => thn (ho.run pins s1 σ H1 _ I1 q1) fun u s2 ⟨x, H2, I2, rx, q2⟩ => thn (hi.run pins s2 σ H2 _ I2 q2) fun iv s3 ⟨y, H3, I3, ry, a, b, kvs, k, ex, ey, e, hk, kb, l, q3⟩ => ?_) hs
  subst ex ey
  obtain rfl : u = Value.ref a := rx
  obtain rfl : iv = Value.ref b := ry
  obtain ⟨z, hd, xs, rel, dd⟩ := dN_at I3 e hk
  have hz : xs.length ≤ sizeLine := by rw [← relN_len rel]; exact z
  have hl : (putN kvs k b v).length ≤ sizeLine := by have := putN_len kvs k b v; omega
  refine wpAny_setItem_heap (hsz := hz) (roomN1 hu) (kb.is I3) dd fun h' dd' hs' => ⟨σ, _, ?_, q3⟩
  have he : ∃ q, h'.get? a = some q := let ⟨q, _, _, hq, _⟩ := dd'; ⟨q, hq⟩
  exact d_write I3 (by rw [e]; exact True.intro) hs' he (dN_ok hl hd (relN_put k b rv rel) dd')
/-- d[t] -/
def tDGetN (P : Program) (w : World) (K : PySem.W.Frag) (td ty : TE) : TE := fun σ H Q => td σ H fun x H1 => ty σ H1 fun y H2 => ∃ (a b : Addr) (kvs : List EnN) (k : NestedKey) (v : V), x = .ref a ∧ y = .ref b ∧ H2 a = some (dN P w a kvs) ∧ (∀ p ∈ kvs, KeyA K H2 p.1 p.2.1) ∧ KeyA K H2 k b ∧ getN kvs k = some v ∧ Q v H2
theorem pe_dgetN (hu : X.A.units + 64 < cLine) (ho : PE X o td) (hi : PE X i ty) (hs : NoSl i) : PE X (.Subscript o i pos) (tDGetN X.prog X.w X.K td ty) := by
  refine ⟨fun pins s σ H Q I h => ?_⟩
  refine subD_of PySem.F.slot_dict_getitem.lookup hs (thn (ho.run pins s σ H _ I h) fun u s1 ⟨x, H1, I1, rx, q1⟩ => thn (hi.run pins s1 σ H1 _ I1 q1) fun iv s2 ⟨y, H2, I2, ry, a, b, kvs, k, v, ex, ey, g, hk, kb, hv, q2⟩ => ?_)
  subst ex ey
  obtain rfl : u = Value.ref a := rx
  obtain rfl : iv = Value.ref b := ry
  obtain ⟨z, hd, xs, rel, dd⟩ := dN_at I2 g hk
  obtain ⟨w', hw, rw'⟩ := RelO.some_of (v := v) (o := (atKey xs k).map (·.2)) (by rw [← hv]; exact (relN_find k rel).1)
  obtain ⟨p, hp, hp2⟩ := Option.map_eq_some_iff.mp hw
  refine ⟨dd.typeIs, wpAny_getItem_heap (roomN1 hu) (kb.is I2) dd hp ?_⟩
  rw [hp2]
  exact ⟨v, H2, I2.tok _, rw', q2⟩
/-- {} -/
def tDNewN (P : Program) (w : World) : TE := fun _ H Q => ∀ p, H p = none → Q (.ref p) (upd H p (dN P w p []))
theorem pe_dnewN : PE X (.Dict [] [] pos) (tDNewN X.prog X.w) := ⟨fun pins s σ H Q I h =>
  wpAny_Dict_empty ⟨.ref s.heap.objs.size, _, I.laid (a := s.heap.objs.size) (o := dN X.prog X.w s.heap.objs.size []) (t' := s.toks) (fun _ _ q => Heap.get?_push_of_some _ q) (Nat.le_refl _)
    (dN_ok (Nat.zero_le _) (beq_eq_false_iff_ne.mpr (Ne.symm (Nat.ne_of_lt I.big))) .nil (Heap.DictOfH.new s.heap)), rfl, h _ (I.hok.fresh (Nat.le_refl _))⟩⟩
/-- dict(ps), ps a list of pairs (t, v) -/
def mergeN (kvs ps : List EnN) : List EnN := ps.foldl (fun acc p => putN acc p.1 p.2.1 p.2.2) kvs
theorem mergeN_len (ps : List EnN) : ∀ kvs, (mergeN kvs ps).length ≤ kvs.length + ps.length := by
  induction ps with
  | nil => exact fun kvs => Nat.le_refl _
  | cons p ps ih =>
    intro kvs
    have h1 := ih (putN kvs p.1 p.2.1 p.2.2)
    have h2 := putN_len kvs p.1 p.2.1 p.2.2
    show (mergeN (putN kvs p.1 p.2.1 p.2.2) ps).length ≤ _
    rw [List.length_cons]
    omega
theorem relN_merge {ps : List EnN} {qs : List (NestedKey × Addr × Value)} (r : Paired RelN ps qs) : ∀ {kvs : List EnN} {xs : List (NestedKey × Addr × Value)}, Paired RelN kvs xs → Paired RelN (mergeN kvs ps) (storedAllH xs qs) := by
  induction r with
  | nil => exact fun h => h
  | @cons p q ps qs h t ih =>
    intro kvs xs rel
    show Paired RelN (mergeN (putN kvs p.1 p.2.1 p.2.2) ps) (storedAllH (storedH xs q.1 q.2.1 q.2.2) qs)
    rw [h.1, h.2.1]
    exact ih (relN_put q.1 q.2.1 h.2.2 rel)
def rDictN (P : Program) (w : World) (K : PySem.W.Frag) : List V → Hp → VK → Prop := fun xs H Q => ∃ (a : Addr) (ts : List Addr) (ps : List EnN), xs = [.ref a] ∧ SqL K H a (ts.map V.ref) ∧ Paired (fun t p => SqT K H t [.ref p.2.1, p.2.2]) ts ps ∧ (∀ p ∈ ps, KeyA K H p.1 p.2.1) ∧
  ∀ p, H p = none → Q (.ref p) (upd H p (dN P w p (mergeN [] ps)))
theorem pairsN_of {pins : List (Addr × Obj)} {σ : L2.St} {H : Hp} {s : Shared} (I : Inv X pins σ H s) : ∀ {ts : List Addr} {ps : List EnN}, Paired (fun t p => SqT X.K H t [V.ref p.2.1, p.2.2]) ts ps →
    ∃ qs : List (NestedKey × Addr × Value), Paired RelN ps qs ∧ qs.length = ts.length ∧ ∀ (j : Nat) q, qs[j]? = some q → ∃ t, ts[j]? = some t ∧ s.heap.IsTuple t #[.ref q.2.1, q.2.2]
  | _, _, .nil => ⟨[], .nil, rfl, fun j q e => by simp at e⟩
  | _, _, .cons (a := t) (b := p) h r => by
    obtain ⟨qs, r1, hl, hp⟩ := pairsN_of I r
    obtain ⟨its, rv, ht, _⟩ := I.tuple h
    obtain ⟨u, y, ei, ru, ry⟩ := vals2 rv
    subst ei
    obtain rfl : u = Value.ref p.2.1 := ru
    refine ⟨(p.1, p.2.1, y) :: qs, .cons ⟨rfl, rfl, ry⟩ r1, by rw [List.length_cons, List.length_cons, hl], fun j q e => ?_⟩
    cases j with
    | zero =>
      have e' : (p.1, p.2.1, y) = q := Option.some.inj e
      subst e'
      exact ⟨t, rfl, ht⟩
    | succ j =>
      obtain ⟨b, e1, e2⟩ := hp j q (by simpa using e)
      exact ⟨b, by simpa using e1, e2⟩
theorem call_dictN (hcalm : X.calm = true) (hu : X.A.units + 64 < cLine) : CallR X (.type "dict") (rDictN X.prog X.w X.K) := by
  intro pins s σ H xs us Q I r q
  obtain ⟨a, ts, ps, ex, hq, hp, hk, q⟩ := q
  subst ex
  obtain ⟨u, eu, rx⟩ := vals1 r
  subst eu
  cases rx
  obtain ⟨its, rv, pl, hz⟩ := I.list hq
  have ei := refs_at rv
  subst ei
  rw [List.length_map] at hz
  obtain ⟨qs, rel, hl, hpr⟩ := pairsN_of I hp
  obtain ⟨o, n, ho, hc, hd, hdat⟩ := pl
  have his : ∀ x ∈ qs, (nestedKind X.prog X.w).is s.heap x.1 x.2.1 := relN_all (F := fun k b => (nestedKind X.prog X.w).is s.heap k b) rel fun p hp => (hk p hp).is I
  have PA := PairArg.list (prog := X.prog) (w := X.w) a ((ts.map Value.ref).toArray) (fun j => (ts[j]?).getD 0) (qs.map fun q => (Value.ref q.2.1, q.2.2))
  refine call_dict_pairsH (knd := nestedKind X.prog X.w) (ps := qs) PA (I.ok.hd hcalm) (roomN hu) ⟨⟨o, n, ho, hc, hd, hdat⟩, ?_, fun j k v e => ?_⟩ ⟨(List.length_map _).symm, fun i key v e => ?_⟩ (fun h' hk' x hx => ?_) (by rw [List.length_map, hl]; exact hz) fun h' tk hd' k => ?_
  · simp [hl]
  · rw [List.getElem?_map] at e
    obtain ⟨q, hq, e⟩ := Option.map_eq_some_iff.mp e
    cases e
    obtain ⟨t, ht, htup⟩ := hpr j q hq
    refine ⟨by simp [ht], .inl ?_⟩
    show s.heap.IsTuple ((ts[j]?).getD 0) _
    rw [ht]
    exact htup
  · have e : (qs.map fun q => (Value.ref q.2.1, q.2.2))[i]? = some (key, v) := e
    rw [List.getElem?_map] at e
    obtain ⟨q, hq, e⟩ := Option.map_eq_some_iff.mp e
    cases e
    exact ⟨q.1, q.2.1, hq, rfl⟩
  · exact nestedKind_stays.stays (fun b ob vs n e _ => hk' b ob (Nat.ne_of_lt (Heap.lt_size e)) List.not_mem_nil e) (his x hx)
  · have hm : (s.heap.objs.size == sysModules) = false := beq_eq_false_iff_ne.mpr (Nat.ne_of_gt I.big)
    have hlen : (mergeN [] ps).length ≤ sizeLine := by
      refine Nat.le_trans (mergeN_len ps []) ?_
      rw [List.length_nil, Nat.zero_add, relN_len rel, hl]
      exact hz
    exact ⟨.ref s.heap.objs.size, upd H s.heap.objs.size (dN X.prog X.w s.heap.objs.size (mergeN [] ps)), I.laid (t' := tk) (fun b o e => k b o List.not_mem_nil e) (Nat.le_refl _) (dN_ok hlen hm (relN_merge rel .nil) hd'), rfl, q _ (I.hok.fresh (Nat.le_refl _))⟩
end
end Bx
-- needs lang numb
/-! the least table -/
namespace Bx
open PySem PySem.Spec PyProof.Rows L2
/-- the first spot of a class -/
def spF (f : Nat → Nat) (N c : Nat) : Nat := ((List.range N).find? fun p => decide (f p = c)).getD 0
theorem spF_of {f : Nat → Nat} {N i : Nat} (hi : i < N) : spF f N (f i) < N ∧ f (spF f N (f i)) = f i := by
  unfold spF
  cases h : (List.range N).find? fun p => decide (f p = f i) with
  | none =>
    have := List.find?_eq_none.mp h i (List.mem_range.mpr hi)
    exact absurd (decide_eq_true rfl) this
  | some p =>
    have h1 := List.find?_some h
    have h2 := List.mem_of_find?_eq_some h
    exact ⟨List.mem_range.mp h2, of_decide_eq_true h1⟩
/-- one turn of the walk over the classes -/
def ordS (t : Tb) (f : Nat → Nat) (o : List Nat) (k : Nat) : List Nat := match o[k]? with
  | some c => fstep (fstep o (f (goT t (spF f t.rows.length c) true))) (f (goT t (spF f t.rows.length c) false))
  | none => o
def ordK (t : Tb) (f : Nat → Nat) (o : List Nat) : Nat → List Nat
  | 0 => o
  | k + 1 => ordS t f (ordK t f o k) k
/-- f is a periodic list's period -/
def perd {α : Type} (l : List α) (s : Nat) : Prop := ∀ i, i < l.length → l[i]? = l[i % s]?
structure Fits (t : Tb) (f : Nat → Nat) (s : Nat) : Prop where
  dv : s ∣ t.m
  fl : perd t.flats s
  sl : perd t.steeps s
  bl : perd (t.starts.map f) s
def mods : List Nat := [1, 2, 3, 6]
structure Sz (t : Tb) (f : Nat → Nat) (s : Nat) : Prop where
  md : s ∈ mods
  ft : Fits t f s
  ls : ∀ s' ∈ mods, s' < s → ¬ Fits t f s'
def begF (t : Tb) (f : Nat → Nat) (s : Nat) : List Nat := (t.starts.map f).take s
def ordF (t : Tb) (f : Nat → Nat) (s : Nat) : List Nat := ordK t f (firsts (begF t f s)) t.rows.length
def rowF (t : Tb) (f : Nat → Nat) (o : List Nat) (c : Nat) : Nat × Nat × Bool :=
  (idxK o (f (goT t (spF f t.rows.length c) true)), idxK o (f (goT t (spF f t.rows.length c) false)), goodT t (spF f t.rows.length c))
def leastF (t : Tb) (f : Nat → Nat) (s : Nat) : Tb :=
  ⟨s, t.flats.take s, t.steeps.take s, (begF t f s).map (idxK (ordF t f s)), (ordF t f s).map (rowF t f (ordF t f s))⟩
/-! the walk's lists: without doubles, below the number of spots, closed -/
theorem fstep_mem {κ : Type} [DecidableEq κ] {acc : List κ} {k x : κ} : x ∈ fstep acc k ↔ x ∈ acc ∨ x = k := by
  unfold fstep
  split
  · exact ⟨.inl, fun h => h.elim id fun e => e ▸ by assumption⟩
  · rw [List.mem_append, List.mem_singleton]
theorem fstep_nodup {κ : Type} [DecidableEq κ] {acc : List κ} {k : κ} (h : acc.Nodup) : (fstep acc k).Nodup := by
  unfold fstep
  split
  · exact h
  · rename_i hk
    rw [List.nodup_append]
    exact ⟨h, List.nodup_cons.mpr ⟨List.not_mem_nil, List.nodup_nil⟩, fun a ha b hb e => hk (by rw [← List.mem_singleton.mp hb, ← e]; exact ha)⟩
theorem fstep_pre {κ : Type} [DecidableEq κ] (acc : List κ) (k : κ) : acc <+: fstep acc k := by
  unfold fstep
  split
  · exact List.prefix_refl _
  · exact List.prefix_append _ _
theorem firsts_nodup {κ : Type} [DecidableEq κ] : ∀ (ks acc : List κ), acc.Nodup → (ks.foldl fstep acc).Nodup
  | [], _, h => h
  | k :: ks, _, h => firsts_nodup ks _ (fstep_nodup h)
theorem firsts_sub {κ : Type} [DecidableEq κ] {x : κ} : ∀ (ks acc : List κ), x ∈ ks.foldl fstep acc → x ∈ acc ∨ x ∈ ks
  | [], _, h => .inl h
  | k :: ks, acc, h => by
    rcases firsts_sub ks _ h with e | e
    · rcases fstep_mem.mp e with e | e
      · exact .inl e
      · exact .inr (by rw [e]; exact List.mem_cons_self)
    · exact .inr (List.mem_cons_of_mem _ e)
theorem nodup_len : ∀ (N : Nat) (l : List Nat), l.Nodup → (∀ x ∈ l, x < N) → l.length ≤ N
  | 0, l, _, h => by
    cases l with
    | nil => exact Nat.le_refl _
    | cons x l => exact absurd (h x List.mem_cons_self) (Nat.not_lt_zero _)
  | N + 1, l, hn, h => by
    by_cases hm : N ∈ l
    · have h1 := nodup_len N (l.erase N) (hn.erase N) fun x hx => by
        have hx2 := (hn.mem_erase_iff).mp hx
        have := h x hx2.2
        have := hx2.1
        omega
      rw [List.length_erase_of_mem hm] at h1
      omega
    · have h1 := nodup_len N l hn fun x hx => by
        have := h x hx
        have : x ≠ N := fun e => hm (e ▸ hx)
        omega
      omega
structure Ordl (t : Tb) (f : Nat → Nat) (o : List Nat) : Prop where
  nd : o.Nodup
  im : ∀ c ∈ o, ∃ i, i < t.rows.length ∧ f i = c
theorem Ordl.step {t : Tb} {f : Nat → Nat} {o : List Nat} (h : Ordl t f o) {i : Nat} (hi : i < t.rows.length) : Ordl t f (fstep o (f i)) :=
  ⟨fstep_nodup h.nd, fun c hc => (fstep_mem.mp hc).elim (h.im c) fun e => ⟨i, hi, e.symm⟩⟩
theorem Ordl.len {t : Tb} {f : Nat → Nat} {o : List Nat} (h : Ordl t f o) (hf : Cls t f) : o.length ≤ t.rows.length :=
  nodup_len _ _ h.nd fun x hx => by
    obtain ⟨i, hi, e⟩ := h.im x hx
    rw [← e]
    exact hf.lt hi
theorem Ordl.sp {t : Tb} {f : Nat → Nat} {o : List Nat} (h : Ordl t f o) {c : Nat} (hc : c ∈ o) : spF f t.rows.length c < t.rows.length ∧ f (spF f t.rows.length c) = c := by
  obtain ⟨i, hi, e⟩ := h.im c hc
  have := spF_of (f := f) hi
  rw [e] at this
  exact this
theorem Ordl.ordS {t : Tb} {f : Nat → Nat} {o : List Nat} (h : Ordl t f o) (ok : Tok t) (k : Nat) : Ordl t f (ordS t f o k) := by
  unfold Bx.ordS
  cases e : o[k]? with
  | none => exact h
  | some c =>
    have hs := (h.sp (List.mem_of_getElem? e)).1
    exact (h.step (goT_lt ok hs true)).step (goT_lt ok hs false)
theorem Ordl.ordK {t : Tb} {f : Nat → Nat} {o : List Nat} (h : Ordl t f o) (ok : Tok t) : ∀ k, Ordl t f (ordK t f o k)
  | 0 => h
  | k + 1 => (h.ordK ok k).ordS ok k
theorem ordS_pre (t : Tb) (f : Nat → Nat) (o : List Nat) (k : Nat) : o <+: ordS t f o k := by
  unfold ordS
  split
  · exact (fstep_pre _ _).trans (fstep_pre _ _)
  · exact List.prefix_refl _
theorem ordK_pre (t : Tb) (f : Nat → Nat) (o : List Nat) (k : Nat) : ∀ j, ordK t f o k <+: ordK t f o (k + j)
  | 0 => List.prefix_refl _
  | j + 1 => (ordK_pre t f o k j).trans (ordS_pre _ _ _ _)
theorem ordK_stop {t : Tb} {f : Nat → Nat} {o : List Nat} {k : Nat} (h : (ordK t f o k).length ≤ k) : ∀ j, ordK t f o (k + j) = ordK t f o k
  | 0 => rfl
  | j + 1 => by
    have ih := ordK_stop h j
    show ordS t f (ordK t f o (k + j)) (k + j) = _
    rw [ih]
    unfold ordS
    rw [List.getElem?_eq_none (by omega)]
theorem ordK_end {t : Tb} {f : Nat → Nat} {o : List Nat} (h : Ordl t f o) (ok : Tok t) (hf : Cls t f) {k : Nat} (hk : (ordK t f o k).length ≤ k) : ordK t f o k = ordK t f o t.rows.length := by
  by_cases hN : k ≤ t.rows.length
  · obtain ⟨j, hj⟩ : ∃ j, t.rows.length = k + j := ⟨t.rows.length - k, by omega⟩
    rw [hj, ordK_stop hk j]
  · have hl := (h.ordK ok t.rows.length).len hf
    have e := ordK_stop hl (k - t.rows.length)
    rw [show t.rows.length + (k - t.rows.length) = k by omega] at e
    exact e
/-- closed: the followers of each class are there -/
theorem ordK_closed {t : Tb} {f : Nat → Nat} {o : List Nat} (h : Ordl t f o) (ok : Tok t) (hf : Cls t f) {c : Nat} (hc : c ∈ ordK t f o t.rows.length) (b : Bool) : f (goT t (spF f t.rows.length c) b) ∈ ordK t f o t.rows.length := by
  obtain ⟨k, hk⟩ := List.getElem?_of_mem hc
  have hkl := (List.getElem?_eq_some_iff.mp hk).1
  have hl := (h.ordK ok t.rows.length).len hf
  have hkN : k < t.rows.length := by omega
  obtain ⟨j, hj⟩ : ∃ j, t.rows.length = k + 1 + j := ⟨t.rows.length - (k + 1), by omega⟩
  have hlt : k < (ordK t f o k).length := by
    by_cases z : k < (ordK t f o k).length
    · exact z
    · exfalso
      have e := ordK_end h ok hf (k := k) (by omega)
      rw [← e] at hkl
      omega
  have e1 : (ordK t f o k)[k]? = some c := by
    have p := ordK_pre t f o k (1 + j)
    rw [show k + (1 + j) = t.rows.length by omega] at p
    obtain ⟨r, hr⟩ := p
    rw [← hr, List.getElem?_append_left hlt] at hk
    exact hk
  have e2 : f (goT t (spF f t.rows.length c) b) ∈ ordK t f o (k + 1) := by
    show _ ∈ ordS t f (ordK t f o k) k
    unfold ordS
    rw [e1]
    cases b
    · exact fstep_mem.mpr (.inr rfl)
    · exact fstep_mem.mpr (.inl (fstep_mem.mpr (.inr rfl)))
  have p := ordK_pre t f o (k + 1) j
  rw [← hj] at p
  exact p.subset e2
theorem ordl_firsts {t : Tb} {f : Nat → Nat} {s : Nat} (ok : Tok t) : Ordl t f (firsts (begF t f s)) := by
  refine ⟨firsts_nodup _ _ List.nodup_nil, fun c hc => ?_⟩
  rcases firsts_sub _ _ hc with e | e
  · exact absurd e List.not_mem_nil
  · obtain ⟨i, hi, e2⟩ := List.mem_map.mp (List.mem_of_mem_take e)
    exact ⟨i, ok.st i hi, e2⟩
section
variable {t : Tb} {f : Nat → Nat} {s : Nat}
theorem ordF_l (ok : Tok t) : Ordl t f (ordF t f s) := (ordl_firsts ok).ordK ok _
theorem ordF_beg {c : Nat} (h : c ∈ begF t f s) : c ∈ ordF t f s := by
  have p := ordK_pre t f (firsts (begF t f s)) 0 t.rows.length
  rw [Nat.zero_add] at p
  exact p.subset (firsts_mem h)
theorem idx_lt {l : List Nat} {c : Nat} (h : c ∈ l) : idxK l c < l.length := List.idxOf_lt_length_of_mem h
theorem idx_get {l : List Nat} {c : Nat} (h : c ∈ l) : l[idxK l c]? = some c := by
  have h1 := List.idxOf_lt_length_of_mem h
  unfold idxK
  rw [List.getElem?_eq_getElem h1, List.getElem_idxOf h1]
theorem leastF_go (ok : Tok t) (hf : Cls t f) {i : Nat} (hi : i < t.rows.length) (hm : f i ∈ ordF t f s) (b : Bool) :
    goT (leastF t f s) (idxK (ordF t f s) (f i)) b = idxK (ordF t f s) (f (goT t i b)) ∧ f (goT t i b) ∈ ordF t f s := by
  have hs := (ordF_l (s := s) ok).sp hm
  have e := fun b => hf.go ok hs.1 hi hs.2 b
  refine ⟨?_, ?_⟩
  · unfold goT leastF
    dsimp only
    rw [List.getElem?_map, idx_get hm]
    show (if b then (rowF t f (ordF t f s) (f i)).1 else (rowF t f (ordF t f s) (f i)).2.1) = _
    cases b
    · show idxK _ _ = _
      rw [e false]
      rfl
    · show idxK _ _ = _
      rw [e true]
      rfl
  · rw [← e b]
    exact ordK_closed (ordl_firsts ok) ok hf hm b
theorem leastF_good (ok : Tok t) (hf : Cls t f) {i : Nat} (hi : i < t.rows.length) (hm : f i ∈ ordF t f s) :
    goodT (leastF t f s) (idxK (ordF t f s) (f i)) = goodT t i := by
  have hs := (ordF_l (s := s) ok).sp hm
  have e := hf.good hs.1 hi hs.2
  rw [← e]
  show (match (leastF t f s).rows[idxK (ordF t f s) (f i)]? with | some r => r.2.2 | none => false) = _
  unfold leastF
  dsimp only
  rw [List.getElem?_map, idx_get hm]
  rfl
theorem perd_take {α : Type} {l : List α} {m s g : Nat} (hl : l.length = m) (hs : 0 < s) (hd : s ∣ m) (hm : 0 < m) (h : perd l s) : (l.take s)[g % s]? = l[g % m]? := by
  rw [h (g % m) (by rw [hl]; exact Nat.mod_lt _ hm), Nat.mod_mod_of_dvd _ hd, List.getElem?_take, if_pos (Nat.mod_lt _ hs)]
theorem mods_pos (h : s ∈ mods) : 0 < s ∧ (s = 1 ∨ s = 2 ∨ s = 3 ∨ s = 6) := by
  unfold mods at h
  simp only [List.mem_cons, List.not_mem_nil, or_false] at h
  omega
theorem Sz.le (ok : Tok t) (hs : Sz t f s) : s ≤ t.m := Nat.le_of_dvd ok.m0.1 hs.ft.dv
theorem leastF_ok (ok : Tok t) (hf : Cls t f) (hs : Sz t f s) : Tok (leastF t f s) := by
  have sp := mods_pos hs.md
  have sle := hs.le ok
  have lb : (begF t f s).length = s := by
    unfold begF
    rw [List.length_take, List.length_map, ok.tl]
    omega
  have ol := ordF_l (f := f) (s := s) ok
  have oln := ol.len hf
  have r1 := ok.r1
  have lr : (leastF t f s).rows.length = (ordF t f s).length := by
    show ((ordF t f s).map _).length = _
    rw [List.length_map]
  refine ⟨sp.2, ?_, ?_, ?_, ?_, ?_, ?_, ?_, ?_⟩
  · show (t.flats.take s).length = s
    rw [List.length_take, ok.fl]
    omega
  · show (t.steeps.take s).length = s
    rw [List.length_take, ok.sl]
    omega
  · show ((begF t f s).map _).length = s
    rw [List.length_map, lb]
  · rw [lr]
    have h0 : 0 < (begF t f s).length := by omega
    exact List.length_pos_of_mem (ordF_beg (List.getElem_mem h0))
  · rw [lr]
    omega
  · intro x hx
    obtain ⟨c, hc, rfl⟩ := List.mem_map.mp hx
    rw [lr]
    exact idx_lt (ordF_beg hc)
  · intro r hr
    obtain ⟨c, hc, rfl⟩ := List.mem_map.mp hr
    rw [lr]
    exact idx_lt (ordK_closed (ordl_firsts ok) ok hf hc true)
  · intro r hr
    obtain ⟨c, hc, rfl⟩ := List.mem_map.mp hr
    rw [lr]
    exact idx_lt (ordK_closed (ordl_firsts ok) ok hf hc false)
theorem leastF_goN (ok : Tok t) (hf : Cls t f) (b : Bool) : ∀ (n i : Nat), i < t.rows.length → f i ∈ ordF t f s →
    goN (leastF t f s) b n (idxK (ordF t f s) (f i)) = idxK (ordF t f s) (f (goN t b n i)) ∧ f (goN t b n i) ∈ ordF t f s ∧ goN t b n i < t.rows.length
  | 0, i, hi, hm => ⟨rfl, hm, hi⟩
  | n + 1, i, hi, hm => by
    have h1 := leastF_go ok hf hi hm b
    have h2 := leastF_goN ok hf b n (goT t i b) (goT_lt ok hi b) h1.2
    show goN _ b n (goT _ _ b) = _ ∧ _
    rw [h1.1]
    exact h2
theorem leastF_fold (ok : Tok t) (hf : Cls t f) : ∀ (l : List (Bool × Nat)) (i : Nat), i < t.rows.length → f i ∈ ordF t f s →
    goodT (leastF t f s) (l.foldl (fun q r => goN (leastF t f s) r.1 r.2 q) (idxK (ordF t f s) (f i))) = goodT t (l.foldl (fun q r => goN t r.1 r.2 q) i)
  | [], i, hi, hm => leastF_good ok hf hi hm
  | r :: l, i, hi, hm => by
    have h1 := leastF_goN (s := s) ok hf r.1 r.2 i hi hm
    rw [List.foldl_cons, List.foldl_cons, h1.1]
    exact leastF_fold ok hf l _ h1.2.2 h1.2.1
theorem leastF_beg (ok : Tok t) (hs : Sz t f s) (g : Nat) : begT (leastF t f s) g = idxK (ordF t f s) (f (begT t g)) ∧ f (begT t g) ∈ ordF t f s ∧ begT t g < t.rows.length := by
  have sp := mods_pos hs.md
  have m0 := ok.m0.1
  have hg : g % t.m < t.starts.length := by rw [ok.tl]; exact Nat.mod_lt _ m0
  have e1 : t.starts[g % t.m]? = some (begT t g) := by
    unfold begT
    rw [List.getElem?_eq_getElem hg]
    rfl
  have e2 : (begF t f s)[g % s]? = some (f (begT t g)) := by
    unfold begF
    rw [perd_take (by rw [List.length_map, ok.tl]) sp.1 hs.ft.dv m0 hs.ft.bl, List.getElem?_map, e1]
    rfl
  refine ⟨?_, ordF_beg (List.mem_of_getElem? e2), ok.st _ (List.mem_of_getElem? e1)⟩
  show (((begF t f s).map (idxK (ordF t f s)))[g % s]?).getD 0 = _
  rw [List.getElem?_map, e2]
  rfl
/-- the least table tells the same set -/
theorem leastF_has (ok : Tok t) (hf : Cls t f) (hs : Sz t f s) (x y : Nat) : hasT (leastF t f s) x y = hasT t x y := by
  have sp := mods_pos hs.md
  have m0 := ok.m0.1
  unfold hasT
  by_cases hy : y = 0
  · rw [if_pos hy, if_pos hy]
    show ((t.flats.take s)[Nat.gcd x y % s]?).getD false = _
    rw [perd_take ok.fl sp.1 hs.ft.dv m0 hs.ft.fl]
  · rw [if_neg hy, if_neg hy]
    by_cases hx : x = 0
    · rw [if_pos hx, if_pos hx]
      show ((t.steeps.take s)[Nat.gcd x y % s]?).getD false = _
      rw [perd_take ok.sl sp.1 hs.ft.dv m0 hs.ft.sl]
    · rw [if_neg hx, if_neg hx]
      have h := leastF_beg ok hs (Nat.gcd x y)
      rw [h.1]
      exact leastF_fold ok hf _ _ h.2.2 h.2.1
end
end Bx
-- needs tables least
/-! == of lists and tuples of plain things; the least modulus -/
namespace Bx
open PySem PySem.Spec PyProof.Rows L2
theorem eqvAll_map {α : Type} [DecidableEq α] {f : α → PyData} (h : ∀ x y, PyData.eqv (f x) (f y) = decide (x = y)) : ∀ l m : List α, PyData.eqvAll (l.map f) (m.map f) = decide (l = m)
  | [], [] => by simp [PyData.eqvAll]
  | [], _ :: _ => by simp [PyData.eqvAll]
  | _ :: _, [] => by simp [PyData.eqvAll]
  | x :: l, y :: m => by
    have ih := eqvAll_map h l m
    rw [List.map_cons, List.map_cons]
    simp only [PyData.eqvAll, h, ih]
    by_cases e : x = y
    · by_cases e2 : l = m
      · simp [e, e2]
      · simp [e, e2]
    · simp [e]
theorem eqv_intN (x y : Nat) : PyData.eqv (.int (x : Int)) (.int (y : Int)) = decide (x = y) := by
  rw [PyData.eqv, Bool.eq_iff_iff, beq_iff_eq, decide_eq_true_iff]
  exact Int.ofNat_inj
theorem eqv_boolB (x y : Bool) : PyData.eqv (.bool x) (.bool y) = decide (x = y) := by
  cases x <;> cases y <;> simp [PyData.eqv]
theorem canLay_m {α : Type} {f : α → PyData} (h : ∀ x, (f x).canLay0 = true) : ∀ l : List α, PyData.canLayAll0 (l.map f) = true
  | [] => by rw [List.map_nil, PyData.canLayAll0]
  | x :: l => by rw [List.map_cons, PyData.canLayAll0, h x, canLay_m h l]; rfl
theorem shp_list {α : Type} {f : α → PyData} {n : Nat} (h : ∀ x, (f x).canLay0 = true) (d : ∀ x, (f x).depth ≤ n) (hn : n ≤ 63) (l : List α) : SeqAt.shaped (.list (l.map f)) = true := by
  unfold SeqAt.shaped
  have h2 : (PyData.list (l.map f)).canLay0 = true := by
    rw [PyData.canLay0]
    exact canLay_m h l
  have h3 := depthAll_map d l
  have h4 : (PyData.list (l.map f)).depth ≤ 64 := by
    show PyData.depthAll (l.map f) + 1 ≤ 64
    omega
  rw [h2, decide_eq_true h4]
  rfl
theorem shp_tup {α : Type} {f : α → PyData} {n : Nat} (h : ∀ x, (f x).canLay0 = true) (d : ∀ x, (f x).depth ≤ n) (hn : n ≤ 63) (l : List α) : SeqAt.shaped (.tuple (l.map f)) = true := by
  unfold SeqAt.shaped
  have h2 : (PyData.tuple (l.map f)).canLay0 = true := by
    rw [PyData.canLay0]
    exact canLay_m h l
  have h3 := depthAll_map d l
  have h4 : (PyData.tuple (l.map f)).depth ≤ 64 := by
    show PyData.depthAll (l.map f) + 1 ≤ 64
    omega
  rw [h2, decide_eq_true h4]
  rfl
theorem shp_ints (l : List Nat) : SeqAt.shaped (.list (l.map fun n : Nat => PyData.int (n : Int))) = true := shp_list (n := 0) (fun _ => rfl) (fun _ => Nat.le_refl _) (by decide) l
/-- part[:s] * k -/
def repL {α : Type} (l : List α) (s k : Nat) : List α := (List.replicate k (l.take s)).flatten
theorem repL_map {α β : Type} (f : α → β) (l : List α) (s k : Nat) : repL (l.map f) s k = (repL l s k).map f := by
  unfold repL
  rw [List.map_flatten, List.map_replicate, List.map_take]
theorem rep_get {α : Type} {x : List α} {s : Nat} (hs : x.length = s) (h0 : 0 < s) : ∀ (k i : Nat), i < k * s → (List.replicate k x).flatten[i]? = x[i % s]?
  | 0, i, h => by omega
  | k + 1, i, h => by
    rw [List.replicate_succ, List.flatten_cons]
    have hk : (k + 1) * s = k * s + s := Nat.succ_mul k s
    by_cases hi : i < s
    · rw [List.getElem?_append_left (by omega), Nat.mod_eq_of_lt hi]
    · have e : i % s = (i - s) % s := Nat.mod_eq_sub_mod (by omega)
      rw [List.getElem?_append_right (by omega), hs, rep_get hs h0 k (i - s) (by omega), e]
theorem repL_iff {α : Type} {l : List α} {s k : Nat} (h0 : 0 < s) (hl : l.length = k * s) (hk : 0 < k) : l = repL l s k ↔ perd l s := by
  have hsl : (l.take s).length = s := by
    rw [List.length_take, hl]
    have : s ≤ k * s := Nat.le_mul_of_pos_left _ hk
    omega
  have hlen : (repL l s k).length = k * s := by
    unfold repL
    rw [List.length_flatten, List.map_replicate, List.sum_replicate_nat, hsl]
  have hg : ∀ i, i < k * s → (repL l s k)[i]? = l[i % s]? := fun i hi => by
    unfold repL
    rw [rep_get hsl h0 k i hi, List.getElem?_take, if_pos (Nat.mod_lt _ h0)]
  constructor
  · intro e i hi
    rw [hl] at hi
    rw [← hg i hi, ← e]
  · intro p
    apply List.ext_getElem?
    intro i
    by_cases hi : i < k * s
    · rw [hg i hi, p i (by rw [hl]; exact hi)]
    · rw [List.getElem?_eq_none (by omega), List.getElem?_eq_none (by omega)]
/-- the size fits all parts -/
def fitD (dss : List (List PyData)) (m s : Nat) : Bool := decide (m % s = 0) && dss.all fun ds => PyData.eqv (.tuple ds) (.tuple (repL ds s (m / s)))
def leastD (dss : List (List PyData)) (m : Nat) : Nat := (mods.find? (fitD dss m)).getD m
def partsD (t : Tb) (f : Nat → Nat) : List (List PyData) := [t.flats.map .bool, t.steeps.map .bool, (t.starts.map f).map fun n : Nat => PyData.int (n : Int)]
theorem fitD_iff {t : Tb} {f : Nat → Nat} {s : Nat} (ok : Tok t) (h0 : 0 < s) : fitD (partsD t f) t.m s = true ↔ Fits t f s := by
  have m0 := ok.m0.1
  unfold fitD
  rw [Bool.and_eq_true, decide_eq_true_iff]
  by_cases hd : t.m % s = 0
  rotate_left
  · constructor
    · intro h; exact absurd h.1 hd
    · intro h; exact absurd (Nat.mod_eq_zero_of_dvd h.dv) hd
  have dv : s ∣ t.m := Nat.dvd_of_mod_eq_zero hd
  have hk : 0 < t.m / s := Nat.div_pos (Nat.le_of_dvd m0 dv) h0
  have hm : t.m = t.m / s * s := (Nat.div_mul_cancel dv).symm
  have e : ∀ {α : Type} [DecidableEq α] {g : α → PyData} (_ : ∀ x y, PyData.eqv (g x) (g y) = decide (x = y)) (l : List α), l.length = t.m → (PyData.eqv (.tuple (l.map g)) (.tuple (repL (l.map g) s (t.m / s))) = true ↔ perd l s) := by
    intro α _ g hg l hl
    rw [repL_map, PyData.eqv, eqvAll_map hg, decide_eq_true_iff]
    exact repL_iff h0 (by rw [hl]; exact hm) hk
  unfold partsD
  simp only [List.all_cons, List.all_nil, Bool.and_true, Bool.and_eq_true]
  rw [e eqv_boolB _ ok.fl, e eqv_boolB _ ok.sl, e eqv_intN _ (by rw [List.length_map, ok.tl])]
  exact ⟨fun h => ⟨dv, h.2.1, h.2.2.1, h.2.2.2⟩, fun h => ⟨hd, h.fl, h.sl, h.bl⟩⟩
theorem leastD_sz {t : Tb} {f : Nat → Nat} (ok : Tok t) : Sz t f (leastD (partsD t f) t.m) := by
  have hp : ∀ s ∈ mods, 0 < s := fun s hs => (mods_pos hs).1
  have hmm : t.m ∈ mods := by
    unfold mods
    rcases ok.md with e | e | e | e <;> rw [e] <;> decide
  have hself : Fits t f t.m := ⟨Nat.dvd_refl _, fun i hi => by rw [Nat.mod_eq_of_lt (by rw [ok.fl] at hi; exact hi)], fun i hi => by rw [Nat.mod_eq_of_lt (by rw [ok.sl] at hi; exact hi)],
    fun i hi => by rw [Nat.mod_eq_of_lt (by rw [List.length_map, ok.tl] at hi; exact hi)]⟩
  unfold leastD
  cases h : mods.find? (fitD (partsD t f) t.m) with
  | none => exact absurd ((fitD_iff ok (hp _ hmm)).mpr hself) (List.find?_eq_none.mp h _ hmm)
  | some s =>
    have h1 := List.find?_some h
    have h2 := List.mem_of_find?_eq_some h
    refine ⟨h2, (fitD_iff ok (hp _ h2)).mp h1, fun s' hs' hlt hf => ?_⟩
    replace hlt : s' < s := hlt
    have hf' := (fitD_iff ok (hp _ hs')).mpr hf
    obtain ⟨-, as, bs, hE, hA⟩ := List.find?_eq_some_iff_append.mp h
    have hm : s' ∈ as := by
      have hs2 := hs'
      rw [hE, List.mem_append, List.mem_cons] at hs2
      rcases hs2 with z | z | z
      · exact z
      · omega
      · exfalso
        have sorted : mods.Pairwise (· < ·) := by unfold mods; decide
        rw [hE, List.pairwise_append] at sorted
        have := (List.pairwise_cons.mp sorted.2.1).1 s' z
        omega
    have := hA s' hm
    rw [hf'] at this
    cases this
end Bx
-- needs least dcit
/-! two tables put together -/
namespace Bx
open PySem PySem.Spec PyProof.Rows L2
def goP (t1 t2 : Tb) (c : Nat × Nat) (b : Bool) : Nat × Nat := (goT t1 c.1 b, goT t2 c.2 b)
def prS (t1 t2 : Tb) (o : List (Nat × Nat)) (k : Nat) : List (Nat × Nat) := match o[k]? with
  | some c => fstep (fstep o (goP t1 t2 c true)) (goP t1 t2 c false)
  | none => o
def prK (t1 t2 : Tb) (o : List (Nat × Nat)) : Nat → List (Nat × Nat)
  | 0 => o
  | k + 1 => prS t1 t2 (prK t1 t2 o k) k
def lcmN (a b : Nat) : Nat := a / Nat.gcd a b * b
def begP (t1 t2 : Tb) : List (Nat × Nat) := (List.range (lcmN t1.m t2.m)).map fun g => (begT t1 g, begT t2 g)
def ordP (t1 t2 : Tb) : List (Nat × Nat) := prK t1 t2 (firsts (begP t1 t2)) (t1.rows.length * t2.rows.length)
def rowP (op : Bool → Bool → Bool) (t1 t2 : Tb) (o : List (Nat × Nat)) (c : Nat × Nat) : Nat × Nat × Bool := (idxK o (goP t1 t2 c true), idxK o (goP t1 t2 c false), op (goodT t1 c.1) (goodT t2 c.2))
def flatT (t : Tb) (g : Nat) : Bool := (t.flats[g % t.m]?).getD false
def steepT (t : Tb) (g : Nat) : Bool := (t.steeps[g % t.m]?).getD false
def prodF (op : Bool → Bool → Bool) (t1 t2 : Tb) : Tb :=
  ⟨lcmN t1.m t2.m, (List.range (lcmN t1.m t2.m)).map fun g => op (flatT t1 g) (flatT t2 g), (List.range (lcmN t1.m t2.m)).map fun g => op (steepT t1 g) (steepT t2 g), (begP t1 t2).map (idxK (ordP t1 t2)), (ordP t1 t2).map (rowP op t1 t2 (ordP t1 t2))⟩
structure OrdP (t1 t2 : Tb) (o : List (Nat × Nat)) : Prop where
  nd : o.Nodup
  lt : ∀ c ∈ o, c.1 < t1.rows.length ∧ c.2 < t2.rows.length
theorem OrdP.step {t1 t2 : Tb} {o : List (Nat × Nat)} (h : OrdP t1 t2 o) {c : Nat × Nat} (hc : c.1 < t1.rows.length ∧ c.2 < t2.rows.length) : OrdP t1 t2 (fstep o c) :=
  ⟨fstep_nodup h.nd, fun d hd => (fstep_mem.mp hd).elim (h.lt d) fun e => e ▸ hc⟩
theorem goP_lt {t1 t2 : Tb} (ok1 : Tok t1) (ok2 : Tok t2) {c : Nat × Nat} (h : c.1 < t1.rows.length ∧ c.2 < t2.rows.length) (b : Bool) : (goP t1 t2 c b).1 < t1.rows.length ∧ (goP t1 t2 c b).2 < t2.rows.length :=
  ⟨goT_lt ok1 h.1 b, goT_lt ok2 h.2 b⟩
theorem OrdP.len {t1 t2 : Tb} {o : List (Nat × Nat)} (h : OrdP t1 t2 o) : o.length ≤ t1.rows.length * t2.rows.length := by
  have hn : (o.map fun c => c.1 * t2.rows.length + c.2).Nodup := by
    refine List.pairwise_map.mpr (List.Pairwise.imp_of_mem ?_ h.nd)
    intro a b ha hb ne e
    have la := (h.lt a ha).2
    have lb := (h.lt b hb).2
    have h2 : a.2 = b.2 := by
      have := congrArg (fun z => z % t2.rows.length) e
      rwa [Nat.mul_comm, Nat.mul_add_mod, Nat.mul_comm, Nat.mul_add_mod, Nat.mod_eq_of_lt la, Nat.mod_eq_of_lt lb] at this
    have h1 : a.1 = b.1 := by
      rw [h2] at e
      exact Nat.eq_of_mul_eq_mul_right (by omega) (Nat.add_right_cancel e)
    exact ne (Prod.ext h1 h2)
  have := nodup_len (t1.rows.length * t2.rows.length) _ hn fun x hx => by
    obtain ⟨c, hc, rfl⟩ := List.mem_map.mp hx
    have l := h.lt c hc
    have : (c.1 + 1) * t2.rows.length ≤ t1.rows.length * t2.rows.length := Nat.mul_le_mul_right _ l.1
    rw [Nat.succ_mul] at this
    omega
  rw [List.length_map] at this
  exact this
theorem OrdP.prS {t1 t2 : Tb} {o : List (Nat × Nat)} (h : OrdP t1 t2 o) (ok1 : Tok t1) (ok2 : Tok t2) (k : Nat) : OrdP t1 t2 (prS t1 t2 o k) := by
  unfold Bx.prS
  cases e : o[k]? with
  | none => exact h
  | some c =>
    have hc := h.lt c (List.mem_of_getElem? e)
    exact (h.step (goP_lt ok1 ok2 hc true)).step (goP_lt ok1 ok2 hc false)
theorem OrdP.prK {t1 t2 : Tb} {o : List (Nat × Nat)} (h : OrdP t1 t2 o) (ok1 : Tok t1) (ok2 : Tok t2) : ∀ k, OrdP t1 t2 (prK t1 t2 o k)
  | 0 => h
  | k + 1 => (h.prK ok1 ok2 k).prS ok1 ok2 k
theorem prS_pre (t1 t2 : Tb) (o : List (Nat × Nat)) (k : Nat) : o <+: prS t1 t2 o k := by
  unfold prS
  split
  · exact (fstep_pre _ _).trans (fstep_pre _ _)
  · exact List.prefix_refl _
theorem prK_pre (t1 t2 : Tb) (o : List (Nat × Nat)) (k : Nat) : ∀ j, prK t1 t2 o k <+: prK t1 t2 o (k + j)
  | 0 => List.prefix_refl _
  | j + 1 => (prK_pre t1 t2 o k j).trans (prS_pre _ _ _ _)
theorem prK_stop {t1 t2 : Tb} {o : List (Nat × Nat)} {k : Nat} (h : (prK t1 t2 o k).length ≤ k) : ∀ j, prK t1 t2 o (k + j) = prK t1 t2 o k
  | 0 => rfl
  | j + 1 => by
    have ih := prK_stop h j
    show prS t1 t2 (prK t1 t2 o (k + j)) (k + j) = _
    rw [ih]
    unfold prS
    rw [List.getElem?_eq_none (by omega)]
section
variable {t1 t2 : Tb} {op : Bool → Bool → Bool}
theorem prK_end {o : List (Nat × Nat)} (h : OrdP t1 t2 o) (ok1 : Tok t1) (ok2 : Tok t2) {k : Nat} (hk : (prK t1 t2 o k).length ≤ k) : prK t1 t2 o k = prK t1 t2 o (t1.rows.length * t2.rows.length) := by
  generalize hN : t1.rows.length * t2.rows.length = N
  by_cases hc : k ≤ N
  · obtain ⟨j, hj⟩ : ∃ j, N = k + j := ⟨N - k, by omega⟩
    rw [hj, prK_stop hk j]
  · have hl := (h.prK ok1 ok2 N).len
    rw [hN] at hl
    have e := prK_stop hl (k - N)
    rw [show N + (k - N) = k by omega] at e
    exact e
theorem prK_closed {o : List (Nat × Nat)} (h : OrdP t1 t2 o) (ok1 : Tok t1) (ok2 : Tok t2) {c : Nat × Nat} (hc : c ∈ prK t1 t2 o (t1.rows.length * t2.rows.length)) (b : Bool) : goP t1 t2 c b ∈ prK t1 t2 o (t1.rows.length * t2.rows.length) := by
  have hl := (h.prK ok1 ok2 (t1.rows.length * t2.rows.length)).len
  have en := fun k hk => prK_end h ok1 ok2 (k := k) hk
  generalize t1.rows.length * t2.rows.length = N at *
  obtain ⟨k, hk⟩ := List.getElem?_of_mem hc
  have hkl := (List.getElem?_eq_some_iff.mp hk).1
  obtain ⟨j, hj⟩ : ∃ j, N = k + 1 + j := ⟨N - (k + 1), by omega⟩
  have hlt : k < (prK t1 t2 o k).length := by
    by_cases z : k < (prK t1 t2 o k).length
    · exact z
    · exfalso
      have e := en k (by omega)
      rw [← e] at hkl
      omega
  have e1 : (prK t1 t2 o k)[k]? = some c := by
    have p := prK_pre t1 t2 o k (1 + j)
    rw [show k + (1 + j) = N by omega] at p
    obtain ⟨r, hr⟩ := p
    rw [← hr, List.getElem?_append_left hlt] at hk
    exact hk
  have e2 : goP t1 t2 c b ∈ prK t1 t2 o (k + 1) := by
    show _ ∈ prS t1 t2 (prK t1 t2 o k) k
    unfold prS
    rw [e1]
    cases b
    · exact fstep_mem.mpr (.inr rfl)
    · exact fstep_mem.mpr (.inl (fstep_mem.mpr (.inr rfl)))
  have p := prK_pre t1 t2 o (k + 1) j
  rw [← hj] at p
  exact p.subset e2
/-- the followers of a pair whose turn is over are there -/
theorem prK_at {o : List (Nat × Nat)} {n j : Nat} {c : Nat × Nat} (hj : j < n) (hc : (prK t1 t2 o n)[j]? = some c) (b : Bool) : goP t1 t2 c b ∈ prK t1 t2 o n := by
  have hkl := (List.getElem?_eq_some_iff.mp hc).1
  obtain ⟨d, hd⟩ : ∃ d, n = j + 1 + d := ⟨n - (j + 1), by omega⟩
  have hlt : j < (prK t1 t2 o j).length := by
    by_cases z : j < (prK t1 t2 o j).length
    · exact z
    · exfalso
      have e := prK_stop (t1 := t1) (t2 := t2) (o := o) (k := j) (by omega) (1 + d)
      rw [show j + (1 + d) = n by omega] at e
      rw [e] at hkl
      omega
  have e1 : (prK t1 t2 o j)[j]? = some c := by
    have p := prK_pre t1 t2 o j (1 + d)
    rw [show j + (1 + d) = n by omega] at p
    obtain ⟨r, hr⟩ := p
    rw [← hr, List.getElem?_append_left hlt] at hc
    exact hc
  have e2 : goP t1 t2 c b ∈ prK t1 t2 o (j + 1) := by
    show _ ∈ prS t1 t2 (prK t1 t2 o j) j
    unfold prS
    rw [e1]
    cases b
    · exact fstep_mem.mpr (.inr rfl)
    · exact fstep_mem.mpr (.inl (fstep_mem.mpr (.inr rfl)))
  have p := prK_pre t1 t2 o (j + 1) d
  rw [← hd] at p
  exact p.subset e2
theorem beg_lt {t : Tb} (ok : Tok t) (g : Nat) : begT t g < t.rows.length := by
  have hg : g % t.m < t.starts.length := by rw [ok.tl]; exact Nat.mod_lt _ ok.m0.1
  have e : t.starts[g % t.m]? = some (begT t g) := by
    unfold begT
    rw [List.getElem?_eq_getElem hg]
    rfl
  exact ok.st _ (List.mem_of_getElem? e)
theorem ordP_firsts (ok1 : Tok t1) (ok2 : Tok t2) : OrdP t1 t2 (firsts (begP t1 t2)) := by
  refine ⟨firsts_nodup _ _ List.nodup_nil, fun c hc => ?_⟩
  rcases firsts_sub _ _ hc with e | e
  · exact absurd e List.not_mem_nil
  · obtain ⟨g, _, rfl⟩ := List.mem_map.mp e
    exact ⟨beg_lt ok1 g, beg_lt ok2 g⟩
theorem ordP_l (ok1 : Tok t1) (ok2 : Tok t2) : OrdP t1 t2 (ordP t1 t2) := (ordP_firsts ok1 ok2).prK ok1 ok2 _
theorem ordP_beg {c : Nat × Nat} (h : c ∈ begP t1 t2) : c ∈ ordP t1 t2 := by
  have p := prK_pre t1 t2 (firsts (begP t1 t2)) 0 (t1.rows.length * t2.rows.length)
  rw [Nat.zero_add] at p
  exact p.subset (firsts_mem h)
theorem idxP_lt {κ : Type} [DecidableEq κ] {l : List κ} {c : κ} (h : c ∈ l) : idxK l c < l.length := List.idxOf_lt_length_of_mem h
theorem idxP_get {κ : Type} [DecidableEq κ] {l : List κ} {c : κ} (h : c ∈ l) : l[idxK l c]? = some c := by
  have h1 := List.idxOf_lt_length_of_mem h
  unfold idxK
  rw [List.getElem?_eq_getElem h1, List.getElem_idxOf h1]
theorem idxP_pre {κ : Type} [DecidableEq κ] {l m : List κ} {c : κ} (p : l <+: m) (h : c ∈ l) : idxK m c = idxK l c := by
  obtain ⟨r, rfl⟩ := p
  unfold idxK
  rw [List.idxOf_append, if_pos h]
theorem prodF_go (ok1 : Tok t1) (ok2 : Tok t2) {c : Nat × Nat} (hm : c ∈ ordP t1 t2) (b : Bool) : goT (prodF op t1 t2) (idxK (ordP t1 t2) c) b = idxK (ordP t1 t2) (goP t1 t2 c b) ∧ goP t1 t2 c b ∈ ordP t1 t2 := by
  refine ⟨?_, prK_closed (ordP_firsts ok1 ok2) ok1 ok2 hm b⟩
  unfold goT prodF
  dsimp only
  rw [List.getElem?_map, idxP_get hm]
  cases b <;> rfl
theorem prodF_good {c : Nat × Nat} (hm : c ∈ ordP t1 t2) : goodT (prodF op t1 t2) (idxK (ordP t1 t2) c) = op (goodT t1 c.1) (goodT t2 c.2) := by
  show (match (prodF op t1 t2).rows[idxK (ordP t1 t2) c]? with | some r => r.2.2 | none => false) = _
  unfold prodF
  dsimp only
  rw [List.getElem?_map, idxP_get hm]
  rfl
theorem prodF_goN (ok1 : Tok t1) (ok2 : Tok t2) (b : Bool) : ∀ (n : Nat) (c : Nat × Nat), c ∈ ordP t1 t2 → goN (prodF op t1 t2) b n (idxK (ordP t1 t2) c) = idxK (ordP t1 t2) (goN t1 b n c.1, goN t2 b n c.2) ∧ (goN t1 b n c.1, goN t2 b n c.2) ∈ ordP t1 t2
  | 0, c, hm => ⟨rfl, hm⟩
  | n + 1, c, hm => by
    have h1 := prodF_go (op := op) ok1 ok2 hm b
    have h2 := prodF_goN ok1 ok2 b n (goP t1 t2 c b) h1.2
    show goN _ b n (goT _ _ b) = _ ∧ _
    rw [h1.1]
    exact h2
theorem prodF_fold (ok1 : Tok t1) (ok2 : Tok t2) : ∀ (l : List (Bool × Nat)) (c : Nat × Nat), c ∈ ordP t1 t2 →
    goodT (prodF op t1 t2) (l.foldl (fun q r => goN (prodF op t1 t2) r.1 r.2 q) (idxK (ordP t1 t2) c)) = op (goodT t1 (l.foldl (fun q r => goN t1 r.1 r.2 q) c.1)) (goodT t2 (l.foldl (fun q r => goN t2 r.1 r.2 q) c.2))
  | [], c, hm => prodF_good hm
  | r :: l, c, hm => by
    have h1 := prodF_goN (op := op) ok1 ok2 r.1 r.2 c hm
    rw [List.foldl_cons, List.foldl_cons, List.foldl_cons, h1.1]
    exact prodF_fold ok1 ok2 l _ h1.2
theorem lcmN_ok (ok1 : Tok t1) (ok2 : Tok t2) : (lcmN t1.m t2.m = 1 ∨ lcmN t1.m t2.m = 2 ∨ lcmN t1.m t2.m = 3 ∨ lcmN t1.m t2.m = 6) ∧ t1.m ∣ lcmN t1.m t2.m ∧ t2.m ∣ lcmN t1.m t2.m := by
  rcases ok1.md with e | e | e | e <;> rcases ok2.md with q | q | q | q <;> rw [e, q] <;> decide
theorem flatT_mod {t : Tb} {M g : Nat} (hd : t.m ∣ M) : flatT t (g % M) = flatT t g := by
  unfold flatT
  rw [Nat.mod_mod_of_dvd g hd]
theorem steepT_mod {t : Tb} {M g : Nat} (hd : t.m ∣ M) : steepT t (g % M) = steepT t g := by
  unfold steepT
  rw [Nat.mod_mod_of_dvd g hd]
theorem begT_mod {t : Tb} {M g : Nat} (hd : t.m ∣ M) : begT t (g % M) = begT t g := by
  unfold begT
  rw [Nat.mod_mod_of_dvd g hd]
theorem prodF_rows (ok1 : Tok t1) (ok2 : Tok t2) : (prodF op t1 t2).rows.length ≤ t1.rows.length * t2.rows.length := by
  show ((ordP t1 t2).map _).length ≤ _
  rw [List.length_map]
  exact (ordP_l ok1 ok2).len
theorem prodF_ok (ok1 : Tok t1) (ok2 : Tok t2) (hN : t1.rows.length * t2.rows.length ≤ 1000) : Tok (prodF op t1 t2) := by
  have lm := lcmN_ok ok1 ok2
  have lb : (begP t1 t2).length = lcmN t1.m t2.m := by
    unfold begP
    rw [List.length_map, List.length_range]
  have ol := ordP_l ok1 ok2
  have lr : (prodF op t1 t2).rows.length = (ordP t1 t2).length := by
    show ((ordP t1 t2).map _).length = _
    rw [List.length_map]
  refine ⟨lm.1, ?_, ?_, ?_, ?_, ?_, ?_, ?_, ?_⟩
  · show ((List.range _).map _).length = _
    rw [List.length_map, List.length_range]
    rfl
  · show ((List.range _).map _).length = _
    rw [List.length_map, List.length_range]
    rfl
  · show ((begP t1 t2).map _).length = _
    rw [List.length_map, lb]
    rfl
  · rw [lr]
    have h0 : 0 < (begP t1 t2).length := by omega
    exact List.length_pos_of_mem (ordP_beg (List.getElem_mem h0))
  · rw [lr]
    exact Nat.le_trans ol.len hN
  · intro x hx
    obtain ⟨c, hc, rfl⟩ := List.mem_map.mp hx
    rw [lr]
    exact idxP_lt (ordP_beg hc)
  · intro r hr
    obtain ⟨c, hc, rfl⟩ := List.mem_map.mp hr
    rw [lr]
    exact idxP_lt (prK_closed (ordP_firsts ok1 ok2) ok1 ok2 hc true)
  · intro r hr
    obtain ⟨c, hc, rfl⟩ := List.mem_map.mp hr
    rw [lr]
    exact idxP_lt (prK_closed (ordP_firsts ok1 ok2) ok1 ok2 hc false)
/-- the table of two tells what the sign says -/
theorem prodF_has (ok1 : Tok t1) (ok2 : Tok t2) (x y : Nat) : hasT (prodF op t1 t2) x y = op (hasT t1 x y) (hasT t2 x y) := by
  have lm := lcmN_ok ok1 ok2
  have at_ : ∀ (f : Nat → Bool) (g : Nat), (((List.range (lcmN t1.m t2.m)).map f)[g % lcmN t1.m t2.m]?).getD false = f (g % lcmN t1.m t2.m) := fun f g => by
    rw [List.getElem?_map, List.getElem?_range (Nat.mod_lt _ (by omega))]
    rfl
  unfold hasT
  by_cases hy : y = 0
  · rw [if_pos hy, if_pos hy, if_pos hy]
    refine (at_ (fun g => op (flatT t1 g) (flatT t2 g)) _).trans ?_
    try dsimp only
    rw [flatT_mod lm.2.1, flatT_mod lm.2.2]
    rfl
  · rw [if_neg hy, if_neg hy, if_neg hy]
    by_cases hx : x = 0
    · rw [if_pos hx, if_pos hx, if_pos hx]
      refine (at_ (fun g => op (steepT t1 g) (steepT t2 g)) _).trans ?_
      try dsimp only
      rw [steepT_mod lm.2.1, steepT_mod lm.2.2]
      rfl
    · rw [if_neg hx, if_neg hx, if_neg hx]
      generalize Nat.gcd x y = g
      have hb : (begP t1 t2)[g % lcmN t1.m t2.m]? = some (begT t1 g, begT t2 g) := by
        unfold begP
        rw [List.getElem?_map, List.getElem?_range (Nat.mod_lt _ (by omega)), Option.map_some, begT_mod lm.2.1, begT_mod lm.2.2]
      have e : begT (prodF op t1 t2) g = idxK (ordP t1 t2) (begT t1 g, begT t2 g) := by
        show (((begP t1 t2).map (idxK (ordP t1 t2)))[g % lcmN t1.m t2.m]?).getD 0 = _
        rw [List.getElem?_map, hb]
        rfl
      rw [e]
      exact prodF_fold ok1 ok2 _ _ (ordP_beg (List.mem_of_getElem? hb))
end
/-! the other set -/
def otherF (t : Tb) : Tb := ⟨t.m, t.flats.map (!·), t.steeps.map (!·), t.starts, t.rows.map fun r => (r.1, r.2.1, !r.2.2)⟩
theorem otherF_ok {t : Tb} (ok : Tok t) : Tok (otherF t) := by
  have lr : (otherF t).rows.length = t.rows.length := by
    show (t.rows.map _).length = _
    rw [List.length_map]
  refine ⟨ok.md, ?_, ?_, ok.tl, ?_, ?_, ?_, ?_, ?_⟩
  · show (t.flats.map _).length = _
    rw [List.length_map]; exact ok.fl
  · show (t.steeps.map _).length = _
    rw [List.length_map]; exact ok.sl
  · rw [lr]; exact ok.r0
  · rw [lr]; exact ok.r1
  · intro s hs
    rw [lr]; exact ok.st s hs
  · intro r hr
    obtain ⟨q, hq, rfl⟩ := List.mem_map.mp hr
    rw [lr]; exact ok.rw1 q hq
  · intro r hr
    obtain ⟨q, hq, rfl⟩ := List.mem_map.mp hr
    rw [lr]; exact ok.rw2 q hq
theorem otherF_go {t : Tb} (s : Nat) (b : Bool) : goT (otherF t) s b = goT t s b := by
  unfold goT otherF
  dsimp only
  rw [List.getElem?_map]
  cases t.rows[s]? <;> rfl
theorem otherF_goN {t : Tb} (b : Bool) : ∀ (n s : Nat), goN (otherF t) b n s = goN t b n s
  | 0, _ => rfl
  | n + 1, s => by
    show goN (otherF t) b n (goT (otherF t) s b) = goN t b n (goT t s b)
    rw [otherF_go, otherF_goN b n]
theorem otherF_fold {t : Tb} : ∀ (l : List (Bool × Nat)) (s : Nat), l.foldl (fun q r => goN (otherF t) r.1 r.2 q) s = l.foldl (fun q r => goN t r.1 r.2 q) s
  | [], _ => rfl
  | r :: l, s => by
    rw [List.foldl_cons, List.foldl_cons, otherF_goN]
    exact otherF_fold l _
theorem otherF_has {t : Tb} (ok : Tok t) (x y : Nat) : hasT (otherF t) x y = !hasT t x y := by
  have hm := ok.m0.1
  have ng : ∀ (l : List Bool) (i : Nat), i < l.length → ((l.map (!·))[i]?).getD false = !((l[i]?).getD false) := fun l i hi => by
    rw [List.getElem?_map, List.getElem?_eq_getElem hi]
    rfl
  unfold hasT
  by_cases hy : y = 0
  · rw [if_pos hy, if_pos hy]
    exact ng t.flats _ (by rw [ok.fl]; exact Nat.mod_lt _ hm)
  · rw [if_neg hy, if_neg hy]
    by_cases hx : x = 0
    · rw [if_pos hx, if_pos hx]
      exact ng t.steeps _ (by rw [ok.sl]; exact Nat.mod_lt _ hm)
    · rw [if_neg hx, if_neg hx]
      have eb : begT (otherF t) (Nat.gcd x y) = begT t (Nat.gcd x y) := rfl
      rw [eb, otherF_fold]
      have hs : (R x y).reverse.foldl (fun q r => goN t r.1 r.2 q) (begT t (Nat.gcd x y)) < t.rows.length := by
        generalize (R x y).reverse = l
        have : ∀ (l : List (Bool × Nat)) (s : Nat), s < t.rows.length → l.foldl (fun s r => goN t r.1 r.2 s) s < t.rows.length := by
          intro l
          induction l with
          | nil => exact fun s hs => hs
          | cons r l ih =>
            have gl : ∀ (b : Bool) (n s : Nat), s < t.rows.length → goN t b n s < t.rows.length := by
              intro b n
              induction n with
              | zero => exact fun s hs => hs
              | succ n ihn => exact fun s hs => ihn _ (goT_lt ok hs b)
            exact fun s hs => ih _ (gl r.1 r.2 s hs)
        exact this l _ (beg_lt ok _)
      generalize (R x y).reverse.foldl (fun q r => goN t r.1 r.2 q) (begT t (Nat.gcd x y)) = s at *
      unfold goodT otherF
      dsimp only
      rw [List.getElem?_map, List.getElem?_eq_getElem hs]
      rfl
theorem leastF_rows {t : Tb} {f : Nat → Nat} {s : Nat} (ok : Tok t) (cl : Cls t f) : (leastF t f s).rows.length ≤ t.rows.length := by
  show ((ordF t f s).map _).length ≤ _
  rw [List.length_map]
  exact (ordF_l ok).len cl
end Bx
-- needs tables lang least eqs toldp
/-! marks of rows that words tell apart (the law's own way) -/
namespace Bx
open PySem PySem.Spec PyProof.Rows L2
theorem sub_len {α : Type} [DecidableEq α] : ∀ (l m : List α), l.Nodup → (∀ x ∈ l, x ∈ m) → l.length ≤ m.length
  | [], _, _, _ => Nat.zero_le _
  | x :: l, m, hn, h => by
    have hx := h x List.mem_cons_self
    have h1 := sub_len l (m.erase x) (List.nodup_cons.mp hn).2 fun y hy => (List.mem_erase_of_ne (fun e : y = x => (List.nodup_cons.mp hn).1 (by rw [← e]; exact hy))).mpr (h y (List.mem_cons_of_mem _ hy))
    rw [List.length_erase_of_mem hx] at h1
    have := List.length_pos_of_mem hx
    show l.length + 1 ≤ m.length
    omega
theorem flat_len {α β : Type} {f : α → List β} {c : Nat} : ∀ l : List α, (∀ x ∈ l, (f x).length = c) → (l.flatMap f).length = l.length * c
  | [], _ => by rw [List.flatMap_nil, List.length_nil, List.length_nil, Nat.zero_mul]
  | x :: l, h => by
    rw [List.flatMap_cons, List.length_append, h x List.mem_cons_self, flat_len l fun y hy => h y (List.mem_cons_of_mem _ hy), List.length_cons, Nat.succ_mul, Nat.add_comm]
/-- all pairs of two different numbers -/
def offD (n : Nat) : List (Nat × Nat) := (List.range n).flatMap fun a => ((List.range n).erase a).map fun b => (a, b)
theorem offD_mem {n : Nat} {c : Nat × Nat} : c ∈ offD n ↔ c.1 < n ∧ c.2 < n ∧ c.1 ≠ c.2 := by
  unfold offD
  rw [List.mem_flatMap]
  constructor
  · rintro ⟨a, ha, h⟩
    obtain ⟨b, hb, rfl⟩ := List.mem_map.mp h
    have := (List.nodup_range.mem_erase_iff).mp hb
    exact ⟨List.mem_range.mp ha, List.mem_range.mp this.2, fun e => this.1 e.symm⟩
  · rintro ⟨h1, h2, h3⟩
    exact ⟨c.1, List.mem_range.mpr h1, List.mem_map.mpr ⟨c.2, (List.nodup_range.mem_erase_iff).mpr ⟨fun e => h3 e.symm, List.mem_range.mpr h2⟩, rfl⟩⟩
theorem offD_len (n : Nat) : (offD n).length = n * (n - 1) := by
  unfold offD
  rw [flat_len (c := n - 1), List.length_range]
  intro a ha
  rw [List.length_map, List.length_erase_of_mem ha, List.length_range]
theorem offD_nodup (n : Nat) : (offD n).Nodup := by
  unfold offD List.Nodup
  rw [List.pairwise_flatMap]
  refine ⟨fun a ha => ?_, ?_⟩
  · rw [List.pairwise_map]
    exact (List.nodup_range.erase a).imp fun h e => h (Prod.mk.inj e).2
  · refine (List.nodup_range (n := n)).imp fun h x hx y hy e => ?_
    obtain ⟨_, _, rfl⟩ := List.mem_map.mp hx
    obtain ⟨_, _, rfl⟩ := List.mem_map.mp hy
    exact h (Prod.mk.inj e).1
theorem off_count {n : Nat} {M : List (Nat × Nat)} (hn : M.Nodup) (h : ∀ c, c ∈ M ↔ c.1 < n ∧ c.2 < n ∧ c.1 ≠ c.2) : M.length = n * (n - 1) := by
  rw [← offD_len]
  exact Nat.le_antisymm (sub_len _ _ hn fun c hc => offD_mem.mpr ((h c).mp hc)) (sub_len _ _ (offD_nodup n) fun c hc => (h c).mpr (offD_mem.mp hc))

def ClosedT (t : Tb) : Prop := ∀ s b, s < t.rows.length → goT t s b < t.rows.length
/-- marks of pairs that some word tells apart -/
structure Marks (t : Tb) (M : List (Nat × Nat)) : Prop where
  nd : M.Nodup
  lt : ∀ c ∈ M, c.1 < t.rows.length ∧ c.2 < t.rows.length
  ap : ∀ c ∈ M, ¬ lang t c.1 c.2
/-- is a pair marked in this turn -/
def mkB (t : Tb) (M : List (Nat × Nat)) (a b : Nat) : Bool := decide ((a, b) ∉ M) && (decide ((goT t a true, goT t b true) ∈ M) || decide ((goT t a false, goT t b false) ∈ M))
def mkR (t : Tb) (p : Nat → Bool) (a : Nat) : List (Nat × Nat) := ((List.range t.rows.length).filter p).map fun b => (a, b)
theorem Marks.more {t : Tb} {M : List (Nat × Nat)} {p : Nat → Bool} {a : Nat} (h : Marks t M) (ha : a < t.rows.length) (h1 : ∀ b, b < t.rows.length → p b = true → (a, b) ∉ M) (h2 : ∀ b, b < t.rows.length → p b = true → ¬ lang t a b) : Marks t (M ++ mkR t p a) := by
  have hm : ∀ c ∈ mkR t p a, ∃ b, b < t.rows.length ∧ p b = true ∧ c = (a, b) := fun c hc => by
    obtain ⟨b, hb, e⟩ := List.mem_map.mp hc
    have := List.mem_filter.mp hb
    exact ⟨b, List.mem_range.mp this.1, this.2, e.symm⟩
  refine ⟨?_, fun c hc => ?_, fun c hc => ?_⟩
  · rw [List.nodup_append]
    refine ⟨h.nd, ?_, fun x hx y hy e => ?_⟩
    · unfold mkR List.Nodup
      rw [List.pairwise_map]
      exact ((List.nodup_range).filter p).imp fun h e => h (Prod.mk.inj e).2
    · obtain ⟨b, b1, b2, b3⟩ := hm y hy
      exact h1 b b1 b2 (by rw [← b3, ← e]; exact hx)
  · rcases List.mem_append.mp hc with z | z
    · exact h.lt c z
    · obtain ⟨b, b1, b2, rfl⟩ := hm c z
      exact ⟨ha, b1⟩
  · rcases List.mem_append.mp hc with z | z
    · exact h.ap c z
    · obtain ⟨b, b1, b2, rfl⟩ := hm c z
      exact h2 b b1 b2
theorem Marks.turn {t : Tb} {M : List (Nat × Nat)} {a : Nat} (h : Marks t M) (ha : a < t.rows.length) : Marks t (M ++ mkR t (mkB t M a) a) := by
  refine h.more ha (fun b hb q => ?_) fun b hb q => ?_
  · unfold mkB at q
    rw [Bool.and_eq_true, decide_eq_true_iff] at q
    exact q.1
  · unfold mkB at q
    rw [Bool.and_eq_true, Bool.or_eq_true, decide_eq_true_iff, decide_eq_true_iff, decide_eq_true_iff] at q
    rcases q.2 with z | z
    · exact fun l => h.ap _ z fun w => l (true :: w)
    · exact fun l => h.ap _ z fun w => l (false :: w)
theorem Marks.len {t : Tb} {M : List (Nat × Nat)} (h : Marks t M) : M.length ≤ t.rows.length * t.rows.length := by
  have e := flat_len (f := fun a => (List.range t.rows.length).map fun b => (a, b)) (c := t.rows.length) (List.range t.rows.length) fun x hx => by rw [List.length_map, List.length_range]
  rw [List.length_range] at e
  rw [← e]
  refine sub_len _ _ h.nd fun c hc => ?_
  obtain ⟨h1, h2⟩ := h.lt c hc
  exact List.mem_flatMap.mpr ⟨c.1, List.mem_range.mpr h1, List.mem_map.mpr ⟨c.2, List.mem_range.mpr h2, rfl⟩⟩
theorem mkR_nil {t : Tb} {p : Nat → Bool} {a : Nat} (h : mkR t p a = []) {b : Nat} (hb : b < t.rows.length) : p b = false := by
  unfold mkR at h
  cases q : p b with
  | false => rfl
  | true =>
    have := List.mem_map_of_mem (f := fun b => (a, b)) (List.mem_filter.mpr ⟨List.mem_range.mpr hb, q⟩)
    rw [h] at this
    cases this
/-- nothing was added in a whole round: the rest is told alike -/
theorem marks_done {t : Tb} {M : List (Nat × Nat)} (cl : ClosedT t) (h : Marks t M) (hg : ∀ a b, a < t.rows.length → b < t.rows.length → goodT t a ≠ goodT t b → (a, b) ∈ M) (hn : ∀ a, a < t.rows.length → mkR t (mkB t M a) a = []) :
    ∀ a b, a < t.rows.length → b < t.rows.length → (a, b) ∉ M → lang t a b := by
  intro a b ha hb hm w
  revert a b
  induction w with
  | nil =>
    intro a b ha hb hm
    by_cases e : goodT t a = goodT t b
    · exact e
    · exact absurd (hg a b ha hb e) hm
  | cons l w ih =>
    intro a b ha hb hm
    refine ih _ _ (cl a l ha) (cl b l hb) fun z => ?_
    have q := mkR_nil (hn a ha) hb
    unfold mkB at q
    rw [decide_eq_true hm, Bool.true_and, Bool.or_eq_false_iff, decide_eq_false_iff_not, decide_eq_false_iff_not] at q
    cases l
    · exact q.2 z
    · exact q.1 z
theorem marks_count {t : Tb} {M : List (Nat × Nat)} (cl : ClosedT t) (h : Marks t M) (hg : ∀ a b, a < t.rows.length → b < t.rows.length → goodT t a ≠ goodT t b → (a, b) ∈ M) (hn : ∀ a, a < t.rows.length → mkR t (mkB t M a) a = [])
    (ap : ∀ a b, a < t.rows.length → b < t.rows.length → lang t a b → a = b) : M.length = t.rows.length * (t.rows.length - 1) := by
  refine off_count h.nd fun c => ⟨fun hc => ⟨(h.lt c hc).1, (h.lt c hc).2, fun e => h.ap c hc (by rw [e]; exact fun _ => rfl)⟩, fun hc => ?_⟩
  by_cases z : c ∈ M
  · exact z
  · exact absurd (ap _ _ hc.1 hc.2.1 (marks_done cl h hg hn c.1 c.2 hc.1 hc.2.1 z)) hc.2.2
end Bx

namespace Bx
open PySem PySem.Spec PyProof.Rows L2
def markD (c : Nat × Nat) : PyData := .tuple [.int (c.1 : Int), .int (c.2 : Int)]
theorem markD_shp (c : Nat × Nat) : SeqAt.shaped (markD c) = true := rfl
theorem markD_lay (c : Nat × Nat) : (markD c).canLay0 = true := rfl
theorem markDs_shp (M : List (Nat × Nat)) : SeqAt.shaped (.list (M.map markD)) = true := shp_list (n := 1) markD_lay (fun _ => Nat.le_refl 1) (by decide) M
theorem markD_eqv (a b : Nat × Nat) : PyData.eqv (markD a) (markD b) = decide (a = b) := by
  obtain ⟨a1, a2⟩ := a
  obtain ⟨b1, b2⟩ := b
  unfold markD
  simp only [PyData.eqv, PyData.eqvAll]
  rw [show ((a1 : Int) == (b1 : Int)) = decide (a1 = b1) from eqv_intN a1 b1, show ((a2 : Int) == (b2 : Int)) = decide (a2 = b2) from eqv_intN a2 b2]
  by_cases h1 : a1 = b1 <;> by_cases h2 : a2 = b2 <;> simp [h1, h2]
theorem mark_any (M : List (Nat × Nat)) (c : Nat × Nat) : ((M.map markD).any fun z => PyData.eqv z (markD c)) = decide (c ∈ M) := by
  induction M with
  | nil => simp
  | cons x M ih =>
    rw [List.map_cons, List.any_cons, ih, markD_eqv, Bool.eq_iff_iff, Bool.or_eq_true, decide_eq_true_iff, decide_eq_true_iff, decide_eq_true_iff, List.mem_cons]
    exact ⟨fun h => h.imp Eq.symm id, fun h => h.imp Eq.symm id⟩
theorem markD_at {K : PySem.W.Frag} {H : Hp} {p : Addr} {c : Nat × Nat} (h : H p = some (.tup (pairV c))) : Dp K H (.ref p) (markD c) := .tup (SqT.of h) (.cons (.int _) (.cons (.int _) .nil))
theorem PairsL.dps {K : PySem.W.Frag} {H : Hp} : ∀ {us : List V} {M : List (Nat × Nat)}, PairsL H us M → DpAll K H us (M.map markD)
  | [], [], _ => .nil
  | [], _ :: _, h => by cases h.1
  | _ :: _, [], h => by cases h.1
  | u :: us, c :: M, h => by
    obtain ⟨p, h1, h2⟩ := h.2 0 c rfl
    cases h1
    exact .cons (markD_at h2) (PairsL.dps ⟨Nat.succ.inj h.1, fun j d hd => h.2 (j + 1) d hd⟩)
theorem PairsL.app {H : Hp} {us ws : List V} {M X : List (Nat × Nat)} (h : PairsL H us M) (g : PairsL H ws X) : PairsL H (us ++ ws) (M ++ X) := by
  refine ⟨by rw [List.length_append, List.length_append, h.1, g.1], fun j c hc => ?_⟩
  by_cases hj : j < M.length
  · rw [List.getElem?_append_left hj] at hc
    obtain ⟨p, h1, h2⟩ := h.2 j c hc
    exact ⟨p, by rw [List.getElem?_append_left (by rw [h.1]; exact hj)]; exact h1, h2⟩
  · rw [List.getElem?_append_right (by omega)] at hc
    obtain ⟨p, h1, h2⟩ := g.2 _ c hc
    refine ⟨p, ?_, h2⟩
    rw [List.getElem?_append_right (by rw [h.1]; omega), h.1]
    exact h1
theorem atI_0 {xs : List V} {i : Nat} {v : V} (h : xs[i]? = some v) : atI xs (0 + (i : Int)) = some v := by
  rw [Int.zero_add]
  exact atI_nat h
theorem hu65_of {A : Around} {k : Nat} (hr : Room k A) : A.units + 65 < cLine := Nat.lt_of_le_of_lt (by omega) hr.un
/-- a row's parts, by the number of the row -/
theorem row_parts {K : PySem.W.Frag} {H : Hp} {t : Tb} {us : List V} (hrow : ∀ (i : Nat) (r : Nat × Nat × Bool), t.rows[i]? = some r → ∃ p, us[i]? = some (.ref p) ∧ SqT K H p [.int (r.1 : Int), .int (r.2.1 : Int), .bl r.2.2]) {i : Nat} (hi : i < t.rows.length) :
    ∃ p, us[i]? = some (.ref p) ∧ SqT K H p [.int ((goT t i true : Nat) : Int), .int ((goT t i false : Nat) : Int), .bl (goodT t i)] := by
  have h := List.getElem?_eq_getElem hi
  obtain ⟨p, h1, h2⟩ := hrow i _ h
  refine ⟨p, h1, ?_⟩
  unfold goT goodT
  rw [h]
  exact h2
end Bx
-- needs prog dictN apart
/-! the control states of a program, as data and as keys; there are not many -/
namespace Bx
open PySem PySem.Spec PyProof.Rows L2
structure S9 where
  at_ : Nat
  vs : List Nat
  x : Nat
  y : Nat
deriving DecidableEq
def natsT (ns : List Nat) : PyData := .tuple (ns.map fun n : Nat => .int (n : Int))
def S9.d (s : S9) : PyData := .tuple [.int (s.at_ : Int), natsT s.vs, .tuple [.int (s.x : Int), .int (s.y : Int)]]
structure S9.Ok (n m : Nat) (s : S9) : Prop where
  lt : s.at_ < n
  len : s.vs.length = 3
  v3 : ∀ v ∈ s.vs, v ≤ 3
  xm : s.x < m
  ym : s.y < m
theorem natsT_nl (ns : List Nat) : noL (natsT ns) = true := by
  show noLs (ns.map _) = true
  exact noLs_of fun d hd => by
    obtain ⟨n, _, rfl⟩ := List.mem_map.mp hd
    rfl
theorem S9.nl (s : S9) : noL s.d = true := by
  show noLs [.int (s.at_ : Int), natsT s.vs, .tuple [.int (s.x : Int), .int (s.y : Int)]] = true
  rw [noLs, noLs, natsT_nl]
  rfl
theorem s9_nls (ss : List S9) : noLs (ss.map S9.d) = true := noLs_of fun d hd => by
  obtain ⟨l, _, rfl⟩ := List.mem_map.mp hd
  exact l.nl
def S9.key (s : S9) : NestedKey := keyN s.d
theorem keyNs_map : ∀ ns : List Nat, keyNs (ns.map fun n : Nat => PyData.int (n : Int)) = ns.map fun n : Nat => NestedKey.num (n : Int)
  | [] => rfl
  | n :: ns => by
    rw [List.map_cons, keyNs, keyNs_map ns]
    rfl
theorem S9.key_eq (s : S9) : s.key = .tup [.num (s.at_ : Int), .tup (s.vs.map fun n : Nat => NestedKey.num (n : Int)), .tup [.num (s.x : Int), .num (s.y : Int)]] := by
  unfold S9.key S9.d natsT
  rw [keyN, keyNs, keyNs, keyN, keyN, keyNs_map]
  rfl
theorem nums_inj : ∀ {a b : List Nat}, (a.map fun n : Nat => NestedKey.num (n : Int)) = (b.map fun n : Nat => NestedKey.num (n : Int)) → a = b
  | [], [], _ => rfl
  | [], _ :: _, h => by cases h
  | _ :: _, [], h => by cases h
  | x :: a, y :: b, h => by
    rw [List.map_cons, List.map_cons] at h
    injection h with h1 h2
    injection h1 with h1
    rw [nums_inj h2, show x = y by omega]
theorem S9.key_inj {s t : S9} (h : s.key = t.key) : s = t := by
  rw [S9.key_eq, S9.key_eq] at h
  obtain ⟨a, vs, x, y⟩ := s
  obtain ⟨a', vs', x', y'⟩ := t
  simp only [NestedKey.tup.injEq, List.cons.injEq, NestedKey.num.injEq, and_true] at h
  obtain ⟨h1, h2, h3, h4⟩ := h
  have := nums_inj h2
  subst this
  rw [show a = a' by omega, show x = x' by omega, show y = y' by omega]
theorem S9.depth (s : S9) : s.key.depth ≤ 8 := by
  rw [S9.key_eq]
  have h : ∀ ns : List Nat, NestedKey.depthAll (ns.map fun n : Nat => NestedKey.num (n : Int)) ≤ 1 := fun ns => by
    induction ns with
    | nil => exact Nat.zero_le _
    | cons n ns ih =>
      rw [List.map_cons, NestedKey.depthAll]
      exact Nat.max_le.mpr ⟨by rw [NestedKey.depth]; exact Nat.zero_le _, ih⟩
  have := h s.vs
  simp only [NestedKey.depth, NestedKey.depthAll]
  omega
theorem S9.keyA {K : PySem.W.Frag} {H : Hp} {b : Addr} {s : S9} (h : Dp K H (.ref b) s.d) : KeyA K H s.key b := ⟨s.d, h, s.nl, rfl, s.depth⟩
theorem S9.at_ref {K : PySem.W.Frag} {H : Hp} {v : V} {s : S9} (h : Dp K H v s.d) : ∃ a, v = .ref a := by
  obtain ⟨a, _, e, _⟩ := Dp.tup' h
  exact ⟨a, e⟩
def tri4 : List (List Nat) := (List.range 4).flatMap fun i => (List.range 4).flatMap fun j => (List.range 4).map fun k => [i, j, k]
def uniS (n : Nat) : List S9 := (List.range n).flatMap fun i => tri4.flatMap fun v => (List.range 6).flatMap fun x => (List.range 6).map fun y => ⟨i, v, x, y⟩
theorem flat_lenC {α β : Type} {f : α → List β} {c : Nat} : ∀ {l : List α}, (∀ a ∈ l, (f a).length = c) → (l.flatMap f).length = l.length * c
  | [], _ => by rw [List.flatMap_nil, List.length_nil, List.length_nil, Nat.zero_mul]
  | a :: l, h => by
    rw [List.flatMap_cons, List.length_append, h a List.mem_cons_self, flat_lenC fun b hb => h b (List.mem_cons_of_mem _ hb), List.length_cons, Nat.succ_mul, Nat.add_comm]
theorem uniS_len (n : Nat) : (uniS n).length = n * 2304 := by
  unfold uniS
  have h : ∀ i : Nat, (tri4.flatMap fun v => (List.range 6).flatMap fun x => (List.range 6).map fun y => (⟨i, v, x, y⟩ : S9)).length = 2304 := fun i => by
    rw [flat_lenC (c := 36) fun v _ => by rw [flat_lenC (c := 6) fun x _ => by rw [List.length_map, List.length_range], List.length_range]]
    rfl
  rw [flat_lenC fun i _ => h i, List.length_range]
theorem uniS_mem {n m : Nat} {s : S9} (hm : m ≤ 6) (h : s.Ok n m) : s ∈ uniS n := by
  obtain ⟨a, vs, x, y⟩ := s
  obtain ⟨h1, h2, h3, h4, h5⟩ := h
  match vs, h2 with
  | [i, j, k], _ =>
    have hi := h3 i (by simp)
    have hj := h3 j (by simp)
    have hk := h3 k (by simp)
    have h4 : x < m := h4
    have h5 : y < m := h5
    refine List.mem_flatMap.mpr ⟨a, List.mem_range.mpr h1, List.mem_flatMap.mpr ⟨[i, j, k], ?_, List.mem_flatMap.mpr ⟨x, List.mem_range.mpr (by omega), List.mem_map.mpr ⟨y, List.mem_range.mpr (by omega), rfl⟩⟩⟩⟩
    exact List.mem_flatMap.mpr ⟨i, List.mem_range.mpr (by omega), List.mem_flatMap.mpr ⟨j, List.mem_range.mpr (by omega), List.mem_map.mpr ⟨k, List.mem_range.mpr (by omega), rfl⟩⟩⟩
/-- what the dict of the known states knows: just the found ones -/
structure Knw (K : PySem.W.Frag) (H : Hp) (kvs : List EnN) (ss : List S9) : Prop where
  at_ : ∀ p ∈ kvs, KeyA K H p.1 p.2.1
  has : ∀ s : S9, hasN kvs s.key = decide (s ∈ ss)
  len : kvs.length ≤ ss.length
theorem Knw.sameT {K : PySem.W.Frag} {H H' : Hp} {kvs : List EnN} {ss : List S9} (e : SameT H H') (h : Knw K H kvs ss) : Knw K H' kvs ss := ⟨fun p hp => (h.at_ p hp).sameT e, h.has, h.len⟩
theorem hasN_put (kvs : List EnN) (k k' : NestedKey) (b : Addr) (v : V) : hasN (putN kvs k b v) k' = (hasN kvs k' || decide (k = k')) := by
  unfold putN
  by_cases c : hasN kvs k = true
  · rw [if_pos c]
    have e : ∀ l : List EnN, hasN (l.map fun p => if p.1 = k then (p.1, p.2.1, v) else p) k' = hasN l k' := fun l => by
      unfold hasN
      rw [List.any_map]
      congr 1
      funext p
      show decide ((if p.1 = k then (p.1, p.2.1, v) else p).1 = k') = _
      split <;> rfl
    rw [e]
    by_cases q : k = k'
    · subst q
      rw [c, Bool.true_or]
    · rw [decide_eq_false q, Bool.or_false]
  · rw [if_neg c]
    unfold hasN
    rw [List.any_append]
    simp
theorem Knw.push {K : PySem.W.Frag} {H : Hp} {kvs : List EnN} {ss : List S9} {s : S9} {b : Addr} {v : V} (h : Knw K H kvs ss) (hb : KeyA K H s.key b) : Knw K H (putN kvs s.key b v) (ss ++ [s]) := by
  refine ⟨fun p hp => ?_, fun t => ?_, ?_⟩
  · unfold putN at hp
    split at hp
    · obtain ⟨q, hq, rfl⟩ := List.mem_map.mp hp
      have := h.at_ q hq
      split <;> exact this
    · rcases List.mem_append.mp hp with hp | hp
      · exact h.at_ p hp
      · rw [List.mem_singleton.mp hp]; exact hb
  · rw [hasN_put, h.has, Bool.eq_iff_iff, Bool.or_eq_true, decide_eq_true_iff, decide_eq_true_iff, decide_eq_true_iff, List.mem_append, List.mem_singleton]
    constructor
    · rintro (h | h)
      · exact .inl h
      · exact .inr (S9.key_inj h).symm
    · rintro (h | h)
      · exact .inl h
      · exact .inr (by rw [h])
  · have := putN_len kvs s.key b v
    have := h.len
    rw [List.length_append, List.length_singleton]
    omega
/-! tuples stay, whatever else changes -/
def TFx : HO → Prop
  | .tup _ => True
  | .frz _ (.tup _) => True
  | _ => False
def TupX (H H' : Hp) : Prop := ∀ a o, H a = some o → TFx o → H' a = some o
theorem TupX.refl (H : Hp) : TupX H H := fun _ _ h _ => h
theorem TupX.trans {H H1 H2 : Hp} (x : TupX H H1) (y : TupX H1 H2) : TupX H H2 := fun a o h n => y a o (x a o h n) n
theorem TupX.of {H H' : Hp} (e : Same H H') : TupX H H' := fun a o h _ => e a o h
theorem TupX.put {H : Hp} {a : Addr} {u o : HO} (h : H a = some u) (n : ¬ TFx u) : TupX H (L2.upd H a o) := fun b u' q t => by
  have nb : b ≠ a := fun z => by
    rw [z, h] at q
    cases q
    exact n t
  rw [upd_ne nb]
  exact q
theorem TupX.putL {H : Hp} {a : Addr} {xs : List V} {o : HO} (h : H a = some (.lst xs)) : TupX H (L2.upd H a o) := .put h id
theorem TupX.putN {P : Program} {w : World} {H : Hp} {a b : Addr} {kvs : List EnN} {o : HO} (h : H a = some (dN P w b kvs)) : TupX H (L2.upd H a o) := .put h id
theorem TupX.seqT {K : PySem.W.Frag} {H H' : Hp} {a : Addr} {xs : List V} (e : TupX H H') (h : SqT K H a xs) : SqT K H' a xs := by
  rcases h with (h | ⟨o, h⟩) | h
  · exact .inl (.inl (e _ _ h trivial))
  · exact .inl (.inr ⟨o, e _ _ h trivial⟩)
  · exact .inr h
mutual
theorem Dp.tupX {K : PySem.W.Frag} {H H' : Hp} (e : TupX H H') : ∀ {d : PyData} {v : V}, noL d = true → Dp K H v d → Dp K H' v d
  | .none, _, _, h => by cases h; exact .non
  | .bool _, _, _, h => by cases h; exact .bl _
  | .int _, _, _, h => by cases h; exact .int _
  | .str _, _, _, h => by cases h; exact .str _
  | .list _, _, n, _ => by cases n
  | .tuple _, _, n, h => by
    cases h with
    | tup hs ha => exact .tup (e.seqT hs) (Dp.tupXs e (by rw [noL] at n; exact n) ha)
  | .dict _, _, _, h => by cases h
theorem Dp.tupXs {K : PySem.W.Frag} {H H' : Hp} (e : TupX H H') : ∀ {ds : List PyData} {vs : List V}, noLs ds = true → DpAll K H vs ds → DpAll K H' vs ds
  | [], _, _, h => by cases h; exact .nil
  | _ :: _, _, n, h => by
    cases h with
    | cons h1 h2 =>
      rw [noLs, Bool.and_eq_true] at n
      exact .cons (Dp.tupX e n.1 h1) (Dp.tupXs e n.2 h2)
end
theorem KeyA.tupX {K : PySem.W.Frag} {H H' : Hp} {k : NestedKey} {b : Addr} (e : TupX H H') (h : KeyA K H k b) : KeyA K H' k b := by
  obtain ⟨d, h1, h2, h3⟩ := h.ex
  exact ⟨d, Dp.tupX e h2 h1, h2, h3⟩
theorem Knw.tupX {K : PySem.W.Frag} {H H' : Hp} {kvs : List EnN} {ss : List S9} (e : TupX H H') (h : Knw K H kvs ss) : Knw K H' kvs ss := ⟨fun p hp => (h.at_ p hp).tupX e, h.has, h.len⟩
/-- a list of states is a list of addresses -/
theorem refs_of {K : PySem.W.Frag} {H : Hp} : ∀ {ss : List S9} {us : List V}, DpAll K H us (ss.map S9.d) → ∃ as : List Addr, us = as.map V.ref ∧ as.length = ss.length ∧ ∀ q ∈ ss.zip as, KeyA K H q.1.key q.2
  | [], us, h => by cases h; exact ⟨[], rfl, rfl, fun q hq => absurd hq List.not_mem_nil⟩
  | s :: ss, us, h => by
    cases h with
    | cons h1 h2 =>
      obtain ⟨a, rfl⟩ := S9.at_ref h1
      obtain ⟨as, rfl, h3, h4⟩ := refs_of h2
      refine ⟨a :: as, rfl, by rw [List.length_cons, List.length_cons, h3], fun q hq => ?_⟩
      rw [List.zip_cons_cons] at hq
      rcases List.mem_cons.mp hq with rfl | hq
      · exact S9.keyA h1
      · exact h4 q hq
theorem Knw.merge {K : PySem.W.Frag} {H : Hp} {v : V} : ∀ (l : List (S9 × Addr)) {kvs : List EnN} {ss : List S9}, Knw K H kvs ss → (∀ q ∈ l, KeyA K H q.1.key q.2) → Knw K H (mergeN kvs (l.map fun q => (q.1.key, q.2, v))) (ss ++ l.map Prod.fst)
  | [], kvs, ss, h, _ => by
    rw [List.map_nil, List.map_nil, List.append_nil]
    exact h
  | q :: l, kvs, ss, h, hk => by
    rw [List.map_cons, List.map_cons]
    have h1 := Knw.merge (v := v) l (h.push (v := v) (hk q List.mem_cons_self)) fun p hp => hk p (List.mem_cons_of_mem _ hp)
    rw [List.append_assoc] at h1
    exact h1
theorem paired_of {α β : Type} {F : α → β → Prop} : ∀ {l1 : List α} {l2 : List β}, l1.length = l2.length → (∀ (j : Nat) a b, l1[j]? = some a → l2[j]? = some b → F a b) → Paired F l1 l2
  | [], [], _, _ => .nil
  | [], _ :: _, h, _ => by cases h
  | _ :: _, [], h, _ => by cases h
  | a :: l1, b :: l2, h, hF => .cons (hF 0 a b rfl rfl) (paired_of (by rw [List.length_cons, List.length_cons] at h; omega) fun j x y hx hy => hF (j + 1) x y hx hy)
def st0 (m k : Nat) : S9 := ⟨0, [0, 0, 0], k / m, k % m⟩
theorem st0_nodup {m : Nat} (h : 0 < m) : ∀ n, ((List.range n).map (st0 m)).Nodup := fun n => by
  refine List.Pairwise.map _ (fun a b hab e => hab ?_) List.nodup_range
  unfold st0 at e
  injection e with _ _ e1 e2
  have h1 := Nat.div_add_mod a m
  have h2 := Nat.div_add_mod b m
  rw [e1, e2] at h1
  omega
end Bx
-- needs progat states pairs
/-! runs: their states by what they are, and as data; one step -/
namespace Bx
open PySem PySem.Spec PyProof.Rows L2
structure RSt where
  at_ : Nat
  x : Nat
  y : Nat
  vs : List Nat
  out : Option Str
def outD : Option Str → PyData
  | none => .none
  | some z => .str z
def RSt.d (s : RSt) : PyData := .tuple [.int (s.at_ : Int), .tuple [.int (s.x : Int), .int (s.y : Int)], natsT s.vs, outD s.out]
def movedL (l : Lin) (x y : Nat) : Option (Nat × Nat) := match l with
  | .add true => some (x + y, y)
  | .add false => some (x, x + y)
  | .take true => if y ≤ x then some (x - y, y) else none
  | .take false => if x ≤ y then some (x, y - x) else none
  | _ => none
def finL (n : Nat) (s : RSt) : RSt := { s with out := if s.at_ = n then some "end" else none }
/-- the state behind a state that is no end; n: how many lines there are -/
def goL (n : Nat) (pick : Bool) (s : RSt) (l : Lin) : RSt := match l with
  | .add ax => match movedL (.add ax) s.x s.y with
    | some p => finL n { s with x := p.1, y := p.2, at_ := s.at_ + 1 }
    | none => { s with out := some "below" }
  | .take ax => match movedL (.take ax) s.x s.y with
    | some p => finL n { s with x := p.1, y := p.2, at_ := s.at_ + 1 }
    | none => { s with out := some "below" }
  | .set v m => finL n { s with vs := s.vs.set v.j m, at_ := s.at_ + 1 }
  | .test t m => finL n { s with at_ := if t.tru s.x s.y s.vs = true then m else s.at_ + 1 }
  | .choose m => finL n { s with at_ := if pick = true then m else s.at_ + 1 }
  | .go m => finL n { s with at_ := m }
  | .stop z => { s with out := some z }
/-- a state of a run over n lines -/
structure RSt.Ok (n : Nat) (s : RSt) : Prop where
  len : s.vs.length = 3
  v3 : ∀ v ∈ s.vs, v ≤ 3
  lt : s.at_ ≤ n
  no : s.out = none → s.at_ < n
  ol : ∀ z, s.out = some z → z.length ≤ 8
theorem finL_ok {n : Nat} {s : RSt} (h1 : s.vs.length = 3) (h2 : ∀ v ∈ s.vs, v ≤ 3) (h3 : s.at_ ≤ n) : (finL n s).Ok n := by
  refine ⟨h1, h2, h3, fun h => ?_, fun z h => ?_⟩
  · unfold finL at h
    dsimp only at h
    by_cases c : s.at_ = n
    · rw [if_pos c] at h; cases h
    · show s.at_ < n
      omega
  · unfold finL at h
    dsimp only at h
    by_cases c : s.at_ = n
    · rw [if_pos c] at h; cases h; decide
    · rw [if_neg c] at h; cases h
theorem name_len {z : Str} (h : nameB z = true) : z.length ≤ 8 := by
  unfold nameB at h
  simp only [Bool.and_eq_true, decide_eq_true_eq] at h
  omega
theorem goL_ok {n : Nat} {pick : Bool} {s : RSt} {l : Lin} (h : s.Ok n) (hl : s.at_ < n) (ho : l.Ok n) : (goL n pick s l).Ok n := by
  have mv : ∀ (m : Option (Nat × Nat)), RSt.Ok n (match m with
    | some p => finL n { s with x := p.1, y := p.2, at_ := s.at_ + 1 }
    | none => { s with out := some "below" }) := fun m => by
    cases m with
    | none => exact ⟨h.len, h.v3, h.lt, fun z => (by cases z), fun z e => by cases e; decide⟩
    | some p => exact finL_ok h.len h.v3 hl
  cases l with
  | add ax => exact mv _
  | take ax => exact mv _
  | set v m =>
    refine finL_ok (by show (s.vs.set _ _).length = 3; rw [List.length_set]; exact h.len) (fun z hz => ?_) hl
    rcases List.mem_or_eq_of_mem_set hz with q | q
    · exact h.v3 z q
    · rw [q]; exact ho
  | test t m =>
    refine finL_ok h.len h.v3 ?_
    show (if _ then m else s.at_ + 1) ≤ n
    split
    · exact ho.2
    · exact hl
  | choose m =>
    refine finL_ok h.len h.v3 ?_
    show (if _ then m else s.at_ + 1) ≤ n
    split
    · exact ho
    · exact hl
  | go m => exact finL_ok h.len h.v3 ho
  | stop z => exact ⟨h.len, h.v3, h.lt, fun z => (by cases z), fun z' e => by cases e; exact name_len ho.1⟩
theorem RSt.nl (s : RSt) : noL s.d = true := by
  show noLs [.int (s.at_ : Int), .tuple [.int (s.x : Int), .int (s.y : Int)], natsT s.vs, outD s.out] = true
  rw [noLs, noLs, noLs, noLs, natsT_nl]
  cases s.out <;> rfl
theorem rst_nls (ss : List RSt) : noLs (ss.map RSt.d) = true := noLs_of fun d hd => by
  obtain ⟨l, _, rfl⟩ := List.mem_map.mp hd
  exact l.nl
section
variable {K : PySem.W.Frag} {H : Hp}
def outV : Option Str → V
  | none => .non
  | some z => .str z
theorem dp_out {v : V} {o : Option Str} (h : Dp K H v (outD o)) : v = outV o := by
  cases o with
  | none => cases h; rfl
  | some z => exact Dp.strE h
theorem out_dp (o : Option Str) : Dp K H (outV o) (outD o) := by
  cases o with
  | none => exact .non
  | some z => exact .str z
theorem dp_natsT {v : V} {ns : List Nat} (h : Dp K H v (natsT ns)) : ∃ a, v = .ref a ∧ SqT K H a (ns.map fun n : Nat => V.int (n : Int)) := by
  obtain ⟨a, xs, e, hS, hA⟩ := Dp.tup' h
  have ex : xs = ns.map fun n : Nat => V.int (n : Int) := by
    clear hS e h
    induction ns generalizing xs with
    | nil => cases hA; rfl
    | cons n ns ih =>
      cases hA with
      | cons h1 h2 =>
        obtain rfl := Dp.intE h1
        rw [ih _ h2]
        rfl
  exact ⟨a, e, ex ▸ hS⟩
theorem natsT_dp {a : Addr} {ns : List Nat} (h : SqT K H a (ns.map fun n : Nat => V.int (n : Int))) : Dp K H (.ref a) (natsT ns) := by
  refine .tup h ?_
  clear h
  induction ns with
  | nil => exact .nil
  | cons n ns ih => exact .cons (.int _) ih
theorem pairD_dp {v : V} {x y : Nat} (h : PairAt K H v x y) : Dp K H v (.tuple [.int (x : Int), .int (y : Int)]) := by
  obtain ⟨a, rfl, h⟩ := h
  exact .tup h (.cons (.int _) (.cons (.int _) .nil))
theorem dp_pairD {v : V} {x y : Nat} (h : Dp K H v (.tuple [.int (x : Int), .int (y : Int)])) : PairAt K H v x y := by
  obtain ⟨a, xs, rfl, hS, hA⟩ := Dp.tup' h
  obtain ⟨w1, w2, rfl, f1, f2⟩ := DpAll.two' hA
  obtain rfl := Dp.intE f1
  obtain rfl := Dp.intE f2
  exact ⟨a, rfl, hS⟩
/-- the parts of a state -/
theorem Dp.rst {v : V} {s : RSt} (h : Dp K H v s.d) : ∃ a vp pv, v = .ref a ∧ SqT K H a [.int (s.at_ : Int), vp, .ref pv, outV s.out] ∧ PairAt K H vp s.x s.y ∧ SqT K H pv (s.vs.map fun n : Nat => V.int (n : Int)) := by
  obtain ⟨a, xs, rfl, hS, hA⟩ := Dp.tup' h
  cases hA with
  | cons h1 hA =>
  cases hA with
  | cons h2 hA =>
  cases hA with
  | cons h3 hA =>
  cases hA with
  | cons h4 hA =>
  cases hA
  obtain rfl := Dp.intE h1
  obtain ⟨pv, rfl, hV⟩ := dp_natsT h3
  obtain rfl := dp_out h4
  exact ⟨a, _, pv, rfl, hS, dp_pairD h2, hV⟩
theorem rst_dp {a : Addr} {i : Int} {vp : V} {pv : Addr} {o : V} {s : RSt} (h : SqT K H a [.int i, vp, .ref pv, o]) (hi : i = (s.at_ : Int)) (hp : PairAt K H vp s.x s.y) (hv : SqT K H pv (s.vs.map fun n : Nat => V.int (n : Int))) (ho : o = outV s.out) : Dp K H (.ref a) s.d := by
  subst hi ho
  exact .tup h (.cons (.int _) (.cons (pairD_dp hp) (.cons (natsT_dp hv) (.cons (out_dp _) .nil))))
end
end Bx
-- needs pairs
/-! the pair of a path -/
namespace Bx
open PySem PySem.Spec PyProof.Rows L2
def buildP (g : Nat) : List (Bool × Nat) → Nat × Nat
  | [] => (g, g)
  | r :: l => if r.1 then ((buildP g l).1 + r.2 * (buildP g l).2, (buildP g l).2) else ((buildP g l).1, (buildP g l).2 + r.2 * (buildP g l).1)
def AltP : List (Bool × Nat) → Prop
  | [] => True
  | r :: l => 1 ≤ r.2 ∧ (∀ q, l.head? = some q → q.1 ≠ r.1) ∧ AltP l
theorem div_run {a n b : Nat} (hb : 0 < b) (ha : 0 < a) (h : a ≤ b) : (a + n * b - 1) / b = n := by
  have e : a + n * b - 1 = (a - 1) + n * b := by omega
  rw [e, Nat.add_mul_div_right _ _ hb, Nat.div_eq_of_lt (by omega), Nat.zero_add]
theorem buildP_ok {g : Nat} (hg : 1 ≤ g) : ∀ {rs : List (Bool × Nat)}, AltP rs →
    1 ≤ (buildP g rs).1 ∧ 1 ≤ (buildP g rs).2 ∧ R (buildP g rs).1 (buildP g rs).2 = rs ∧ Nat.gcd (buildP g rs).1 (buildP g rs).2 = g ∧
      (rs.head?.all fun q => if q.1 then decide ((buildP g rs).2 < (buildP g rs).1) else decide ((buildP g rs).1 < (buildP g rs).2)) = true ∧ (rs = [] → (buildP g rs).1 = (buildP g rs).2)
  | [], _ => ⟨hg, hg, by rw [show buildP g [] = (g, g) from rfl]; exact R_nil (by omega), by rw [show buildP g [] = (g, g) from rfl]; exact Nat.gcd_self g, rfl, fun _ => rfl⟩
  | (true, n) :: l, h => by
    obtain ⟨h1, h2, h3⟩ := h
    obtain ⟨a1, a2, a3, a4, a5, a6⟩ := buildP_ok hg h3
    have e : buildP g ((true, n) :: l) = ((buildP g l).1 + n * (buildP g l).2, (buildP g l).2) := rfl
    rw [e]
    generalize buildP g l = p at *
    obtain ⟨x, y⟩ := p
    dsimp only at *
    have hxy : x ≤ y := by
      cases l with
      | nil => rw [a6 rfl]; exact Nat.le_refl _
      | cons q l =>
        have hq := h2 q rfl
        have hq2 : q.1 = false := by cases e : q.1 with
          | false => rfl
          | true => exact absurd e hq
        have a5' : (if q.1 then decide (y < x) else decide (x < y)) = true := a5
        rw [hq2] at a5'
        have := of_decide_eq_true a5'
        omega
    have hm : y ≤ n * y := Nat.le_mul_of_pos_left _ h1
    have hd := div_run (n := n) a2 a1 hxy
    have hgt : x + n * y > y := by omega
    refine ⟨by omega, a2, ?_, ?_, ?_, fun z => by cases z⟩
    · rw [R_x a2 hgt, hd, Nat.add_sub_cancel, a3]
    · rw [Nat.gcd_add_mul_right_left]
      exact a4
    · show decide (y < x + n * y) = true
      exact decide_eq_true (by omega)
  | (false, n) :: l, h => by
    obtain ⟨h1, h2, h3⟩ := h
    obtain ⟨a1, a2, a3, a4, a5, a6⟩ := buildP_ok hg h3
    have e : buildP g ((false, n) :: l) = ((buildP g l).1, (buildP g l).2 + n * (buildP g l).1) := rfl
    rw [e]
    generalize buildP g l = p at *
    obtain ⟨x, y⟩ := p
    dsimp only at *
    have hxy : y ≤ x := by
      cases l with
      | nil => rw [a6 rfl]; exact Nat.le_refl _
      | cons q l =>
        have hq := h2 q rfl
        have hq2 : q.1 = true := by cases e : q.1 with
          | true => rfl
          | false => exact absurd e hq
        have a5' : (if q.1 then decide (y < x) else decide (x < y)) = true := a5
        rw [hq2] at a5'
        have := of_decide_eq_true a5'
        omega
    have hm : x ≤ n * x := Nat.le_mul_of_pos_left _ h1
    have hd := div_run (n := n) a1 a2 hxy
    have hgt : y + n * x > x := by omega
    refine ⟨a1, by omega, ?_, ?_, ?_, fun z => by cases z⟩
    · rw [R_y a1 hgt, hd, Nat.add_sub_cancel, a3]
    · rw [Nat.gcd_add_mul_right_right]
      exact a4
    · show decide (x < y + n * x) = true
      exact decide_eq_true (by omega)
theorem buildP_le {g B : Nat} : ∀ {rs : List (Bool × Nat)}, (∀ r ∈ rs, r.2 ≤ B) → (buildP g rs).1 ≤ g * (B + 1) ^ rs.length ∧ (buildP g rs).2 ≤ g * (B + 1) ^ rs.length
  | [], _ => by
    show g ≤ g * (B + 1) ^ 0 ∧ g ≤ g * (B + 1) ^ 0
    rw [Nat.pow_zero, Nat.mul_one]
    exact ⟨Nat.le_refl _, Nat.le_refl _⟩
  | r :: l, h => by
    have ih := buildP_le (g := g) fun q hq => h q (List.mem_cons_of_mem _ hq)
    have hr := h r List.mem_cons_self
    rw [List.length_cons, Nat.pow_succ, ← Nat.mul_assoc]
    generalize g * (B + 1) ^ l.length = M at *
    have m1 : ∀ z, z ≤ M → z ≤ M * (B + 1) := fun z hz => Nat.le_trans hz (Nat.le_mul_of_pos_right _ (Nat.succ_pos _))
    have m2 : ∀ u v, u ≤ M → v ≤ M → u + r.2 * v ≤ M * (B + 1) := fun u v hu hv => by
      have : r.2 * v ≤ B * M := Nat.mul_le_mul hr hv
      rw [Nat.mul_add, Nat.mul_one, Nat.mul_comm M B]
      omega
    unfold buildP
    cases r.1
    · exact ⟨m1 _ ih.1, m2 _ _ ih.2 ih.1⟩
    · exact ⟨m2 _ _ ih.1 ih.2, m1 _ ih.2⟩
theorem AltP.drop {rs : List (Bool × Nat)} (h : AltP rs) : ∀ n, AltP (rs.drop n) := by
  intro n
  induction n generalizing rs with
  | zero => exact h
  | succ n ih =>
    cases rs with
    | nil => exact h
    | cons r l => exact ih h.2.2
theorem AltP.pos {rs : List (Bool × Nat)} (h : AltP rs) : ∀ r ∈ rs, 1 ≤ r.2 := by
  induction rs with
  | nil => exact fun r hr => absurd hr List.not_mem_nil
  | cons q l ih =>
    intro r hr
    rcases List.mem_cons.mp hr with e | e
    · rw [e]; exact h.1
    · exact ih h.2.2 r e
theorem AltP.next {rs : List (Bool × Nat)} (h : AltP rs) : ∀ (i : Nat) (r q : Bool × Nat), rs[i]? = some r → rs[i + 1]? = some q → r.1 ≠ q.1 := by
  induction rs with
  | nil => exact fun i r q hr => by cases hr
  | cons a l ih =>
    intro i r q hr hq
    cases i with
    | zero =>
      cases hr
      rw [List.getElem?_cons_succ] at hq
      have : l.head? = some q := by rw [List.head?_eq_getElem?]; exact hq
      exact fun z => h.2.1 q this z.symm
    | succ i => exact ih h.2.2 i r q (by simpa using hr) (by simpa using hq)
theorem buildP_drop {g : Nat} {rs : List (Bool × Nat)} {i : Nat} {r : Bool × Nat} (h : rs[i]? = some r) : buildP g (rs.drop i) = if r.1 then ((buildP g (rs.drop (i + 1))).1 + r.2 * (buildP g (rs.drop (i + 1))).2, (buildP g (rs.drop (i + 1))).2) else ((buildP g (rs.drop (i + 1))).1, (buildP g (rs.drop (i + 1))).2 + r.2 * (buildP g (rs.drop (i + 1))).1) := by
  obtain ⟨hi, e⟩ := List.getElem?_eq_some_iff.mp h
  rw [List.drop_eq_getElem_cons hi, e]
  rfl
end Bx
-- needs tables
/-! letters of one kind, many times -/
namespace Bx
open PySem PySem.Spec PyProof.Rows L2
theorem goN_succ (t : Tb) (l : Bool) : ∀ (n s : Nat), goN t l (n + 1) s = goT t (goN t l n s) l
  | 0, _ => rfl
  | n + 1, s => goN_succ t l n (goT t s l)
theorem goN_add (t : Tb) (l : Bool) (s : Nat) (a : Nat) : ∀ b, goN t l (a + b) s = goN t l b (goN t l a s)
  | 0 => rfl
  | b + 1 => by rw [← Nat.add_assoc, goN_succ, goN_add t l s a b, goN_succ]
theorem goN_lt' {t : Tb} (h : Tok t) (l : Bool) : ∀ (n s : Nat), s < t.rows.length → goN t l n s < t.rows.length
  | 0, _, hs => hs
  | n + 1, s, hs => goN_lt' h l n _ (goT_lt h hs l)
/-- round and round -/
theorem goN_round {t : Tb} {l : Bool} {s f p : Nat} (h : goN t l (f + p) s = goN t l f s) : ∀ k, goN t l (f + p * k) s = goN t l f s
  | 0 => rfl
  | k + 1 => by
    rw [show f + p * (k + 1) = (f + p) + p * k by rw [Nat.mul_succ]; omega, goN_add, h, ← goN_add]
    exact goN_round h k
theorem goN_mod {t : Tb} {l : Bool} {s f p n : Nat} (h : goN t l (f + p) s = goN t l f s) (hn : f ≤ n) : goN t l (f + (n - f) % p) s = goN t l n s := by
  have e : n = (f + p * ((n - f) / p)) + (n - f) % p := by
    have := Nat.div_add_mod (n - f) p
    omega
  have e2 : goN t l n s = goN t l ((f + p * ((n - f) / p)) + (n - f) % p) s := by rw [← e]
  rw [e2, goN_add t l s (f + p * ((n - f) / p)), goN_round h, ← goN_add]
theorem pigeon : ∀ (N j : Nat) (g : Nat → Nat), (∀ a b, a ≤ j → b ≤ j → g a = g b → a = b) → (∀ a, a ≤ j → g a < N) → j < N
  | 0, j, g, _, hb => absurd (hb 0 (Nat.zero_le j)) (Nat.not_lt_zero _)
  | N + 1, j, g, hi, hb => by
    by_cases c : ∃ a, a ≤ j ∧ g a = N
    · obtain ⟨a0, h0, h1⟩ := c
      cases j with
      | zero => exact Nat.succ_pos N
      | succ j =>
        have := pigeon N j (fun i => if i < a0 then g i else g (i + 1)) (fun a b ha hb' e => by
            by_cases c1 : a < a0
            · rw [if_pos c1] at e
              by_cases c2 : b < a0
              · rw [if_pos c2] at e
                exact hi a b (by omega) (by omega) e
              · rw [if_neg c2] at e
                have := hi a (b + 1) (by omega) (by omega) e
                omega
            · rw [if_neg c1] at e
              by_cases c2 : b < a0
              · rw [if_pos c2] at e
                have := hi (a + 1) b (by omega) (by omega) e
                omega
              · rw [if_neg c2] at e
                have := hi (a + 1) (b + 1) (by omega) (by omega) e
                omega) (fun a ha => by
            by_cases c1 : a < a0
            · rw [if_pos c1]
              have := hb a (by omega)
              have hne : g a ≠ N := fun z => by
                have := hi a a0 (by omega) h0 (by rw [z, h1])
                omega
              omega
            · rw [if_neg c1]
              have := hb (a + 1) (by omega)
              have hne : g (a + 1) ≠ N := fun z => by
                have := hi (a + 1) a0 (by omega) h0 (by rw [z, h1])
                omega
              omega)
        omega
    · have := pigeon N j g hi (fun a ha => by
        have h1 := hb a ha
        have h2 : g a ≠ N := fun z => c ⟨a, ha, z⟩
        omega)
      omega
/-- at most six spots: sixty letters more are the same -/
theorem goN_60 {t : Tb} (h : Tok t) (h6 : t.rows.length ≤ 6) (l : Bool) {s n : Nat} (hs : s < t.rows.length) (hn : 6 ≤ n) : goN t l (6 + (n - 6) % 60) s = goN t l n s := by
  have ex : ∃ a b, a < b ∧ b ≤ 6 ∧ goN t l a s = goN t l b s := by
    apply Classical.byContradiction
    intro z
    have := pigeon t.rows.length 6 (fun i => goN t l i s) (fun a b ha hb e => by
      rcases Nat.lt_trichotomy a b with q | q | q
      · exact absurd ⟨a, b, q, hb, e⟩ z
      · exact q
      · exact absurd ⟨b, a, q, ha, e.symm⟩ z) fun a _ => goN_lt' h l a s hs
    omega
  obtain ⟨a, b, hab, hb, e⟩ := ex
  have e1 : goN t l (a + (b - a)) s = goN t l a s := by rw [show a + (b - a) = b by omega, e]
  have k60 : ∃ k, 60 = (b - a) * k := by
    have : b - a = 1 ∨ b - a = 2 ∨ b - a = 3 ∨ b - a = 4 ∨ b - a = 5 ∨ b - a = 6 := by omega
    rcases this with q | q | q | q | q | q <;> rw [q]
    · exact ⟨60, rfl⟩
    · exact ⟨30, rfl⟩
    · exact ⟨20, rfl⟩
    · exact ⟨15, rfl⟩
    · exact ⟨12, rfl⟩
    · exact ⟨10, rfl⟩
  obtain ⟨k, hk⟩ := k60
  have e2 : goN t l (6 + 60) s = goN t l 6 s := by
    have q1 : (6 + 60) = (a + (b - a) * k) + (6 - a) := by omega
    have q2 : 6 = a + (6 - a) := by omega
    rw [q1, goN_add, goN_round e1, ← goN_add, ← q2]
  exact goN_mod e2 hn
end Bx
-- needs least build period
/-! equal sets have the same least table -/
namespace Bx
open PySem PySem.Spec PyProof.Rows L2
abbrev Lng : Type := List Bool → Bool
noncomputable instance lDec : DecidableEq Lng := fun a b => Classical.propDecidable (a = b)
/-- what a spot accepts -/
def La (t : Tb) (i : Nat) : Lng := fun w => goodT t (goW t w i)
/-- what a set tells of a divisor -/
def Dt (t : Tb) (g : Nat) : Bool × Bool × Lng := ((t.flats[g % t.m]?).getD false, (t.steeps[g % t.m]?).getD false, La t (begT t g))
theorem La_iff {t : Tb} {i j : Nat} : La t i = La t j ↔ lang t i j := ⟨fun h w => congrFun h w, fun h => funext h⟩
/-! each word is the path of a pair -/
def pushR (rs : List (Bool × Nat)) (b : Bool) : List (Bool × Nat) := match rs with
  | [] => [(b, 1)]
  | r :: l => if r.1 = b then (r.1, r.2 + 1) :: l else (b, 1) :: r :: l
def encW (w : List Bool) : List (Bool × Nat) := w.foldl pushR []
theorem pushR_alt {rs : List (Bool × Nat)} (h : AltP rs) (b : Bool) : AltP (pushR rs b) := by
  unfold pushR
  cases rs with
  | nil => exact ⟨Nat.le_refl _, (fun q hq => by cases hq), trivial⟩
  | cons r l =>
    dsimp only
    split
    · exact ⟨Nat.succ_le_succ (Nat.zero_le _), h.2.1, h.2.2⟩
    · rename_i ne
      exact ⟨Nat.le_refl _, (fun q hq => by cases hq; exact ne), h⟩
theorem pushR_fold (t : Tb) (rs : List (Bool × Nat)) (b : Bool) (s : Nat) : (pushR rs b).reverse.foldl (fun s r => goN t r.1 r.2 s) s = goT t (rs.reverse.foldl (fun s r => goN t r.1 r.2 s) s) b := by
  unfold pushR
  cases rs with
  | nil => rfl
  | cons r l =>
    dsimp only
    split
    · rename_i e
      rw [List.reverse_cons, List.reverse_cons, List.foldl_append, List.foldl_append]
      show goN t r.1 (r.2 + 1) _ = goT t (goN t r.1 r.2 _) b
      rw [goN_succ, e]
    · rw [List.reverse_cons, List.foldl_append]
      rfl
theorem enc_all (t : Tb) (s : Nat) : ∀ (w : List Bool) (rs : List (Bool × Nat)), AltP rs → AltP (w.foldl pushR rs) ∧ (w.foldl pushR rs).reverse.foldl (fun s r => goN t r.1 r.2 s) s = goW t w (rs.reverse.foldl (fun s r => goN t r.1 r.2 s) s)
  | [], _, h => ⟨h, rfl⟩
  | b :: w, rs, h => by
    have ih := enc_all t s w (pushR rs b) (pushR_alt h b)
    rw [pushR_fold] at ih
    exact ih
theorem encW_alt (w : List Bool) : AltP (encW w) := (enc_all ⟨1, [], [], [], []⟩ 0 w [] trivial).1
theorem hasT_word {t : Tb} {g : Nat} (hg : 1 ≤ g) (w : List Bool) : hasT t (buildP g (encW w)).1 (buildP g (encW w)).2 = La t (begT t g) w := by
  obtain ⟨a1, a2, a3, a4, _⟩ := buildP_ok hg (encW_alt w)
  unfold hasT
  have e : (encW w).reverse.foldl (fun s r => goN t r.1 r.2 s) (begT t g) = goW t w (begT t g) := (enc_all t (begT t g) w [] trivial).2
  rw [if_neg (by omega), if_neg (by omega), a3, a4, e]
  rfl
theorem Dt_mod (t : Tb) (g k : Nat) : Dt t (g + t.m * k) = Dt t g := by
  unfold Dt begT
  rw [Nat.add_mul_mod_self_left]
theorem Dt_eq {t1 t2 : Tb} (m1 : 0 < t1.m) (m2 : 0 < t2.m) (h : ∀ x y, ¬ (x = 0 ∧ y = 0) → hasT t1 x y = hasT t2 x y) : Dt t1 = Dt t2 := by
  have h1 : ∀ g, 1 ≤ g → Dt t1 g = Dt t2 g := fun g hg => by
    have a := h g 0 (by omega)
    have b := h 0 g (by omega)
    unfold hasT at a b
    rw [if_pos rfl, if_pos rfl, Nat.gcd_zero_right] at a
    have ng : ¬ g = 0 := by omega
    rw [if_neg ng, if_neg ng, if_pos rfl, if_pos rfl, Nat.gcd_zero_left] at b
    have c : La t1 (begT t1 g) = La t2 (begT t2 g) := funext fun w => by
      rw [← hasT_word hg, ← hasT_word hg]
      have p := buildP_ok hg (encW_alt w)
      exact h _ _ (by omega)
    unfold Dt
    rw [a, b, c]
  funext g
  cases g with
  | zero =>
    have e1 := Dt_mod t1 0 t2.m
    have e2 := Dt_mod t2 0 t1.m
    rw [Nat.zero_add] at e1 e2
    rw [← e1, ← e2, Nat.mul_comm t2.m t1.m]
    exact h1 _ (Nat.mul_pos m1 m2)
  | succ g => exact h1 _ (by omega)
def Per {α : Type} (D : Nat → α) (s : Nat) : Prop := ∀ g, D g = D (g % s)
theorem Per.eq {α : Type} {D : Nat → α} {s g g' : Nat} (h : Per D s) (e : g % s = g' % s) : D g = D g' := by rw [h g, h g', e]
theorem per_gcd {α : Type} {D : Nat → α} {a b : Nat} (ha : a ∈ mods) (hb : b ∈ mods) (pa : Per D a) (pb : Per D b) : ∃ d ∈ mods, d ∣ b ∧ d ≤ a ∧ Per D d := by
  have p1 : Per D 2 → Per D 3 → Per D 1 := fun h2 h3 g => by
    have e : D 1 = D 0 := (h2.eq (g := 1) (g' := 3) rfl).trans (h3.eq (g := 3) (g' := 0) rfl)
    rw [Nat.mod_one, h2 g]
    rcases Nat.mod_two_eq_zero_or_one g with q | q <;> rw [q]
    exact e
  have ha' := (mods_pos ha).2
  have hb' := (mods_pos hb).2
  have i1 : 1 ∈ mods := by decide
  have i2 : 2 ∈ mods := by decide
  have i3 : 3 ∈ mods := by decide
  rcases ha' with e | e | e | e <;> rcases hb' with q | q | q | q <;> subst e <;> subst q
  · exact ⟨1, i1, by decide, by decide, pa⟩
  · exact ⟨1, i1, by decide, by decide, pa⟩
  · exact ⟨1, i1, by decide, by decide, pa⟩
  · exact ⟨1, i1, by decide, by decide, pa⟩
  · exact ⟨1, i1, by decide, by decide, pb⟩
  · exact ⟨2, i2, by decide, by decide, pa⟩
  · exact ⟨1, i1, by decide, by decide, p1 pa pb⟩
  · exact ⟨2, i2, by decide, by decide, pa⟩
  · exact ⟨1, i1, by decide, by decide, pb⟩
  · exact ⟨1, i1, by decide, by decide, p1 pb pa⟩
  · exact ⟨3, i3, by decide, by decide, pa⟩
  · exact ⟨3, i3, by decide, by decide, pa⟩
  · exact ⟨1, i1, by decide, by decide, pb⟩
  · exact ⟨2, i2, by decide, by decide, pb⟩
  · exact ⟨3, i3, by decide, by decide, pb⟩
  · exact ⟨6, by decide, by decide, by decide, pa⟩
section
variable {t : Tb} {f : Nat → Nat} {s : Nat}
theorem begT_at (ok : Tok t) (g : Nat) : t.starts[g % t.m]? = some (begT t g) ∧ begT t g < t.rows.length := by
  have hg : g % t.m < t.starts.length := by rw [ok.tl]; exact Nat.mod_lt _ ok.m0.1
  have e : t.starts[g % t.m]? = some (begT t g) := by
    unfold begT
    rw [List.getElem?_eq_getElem hg]
    rfl
  exact ⟨e, ok.st _ (List.mem_of_getElem? e)⟩
theorem getD_inj {α : Type} {d : α} {l : List α} {i j : Nat} (hi : i < l.length) (hj : j < l.length) (h : (l[i]?).getD d = (l[j]?).getD d) : l[i]? = l[j]? := by
  rw [List.getElem?_eq_getElem hi, List.getElem?_eq_getElem hj] at h ⊢
  exact congrArg some h
theorem fits_iff (ok : Tok t) (cl : Cls t f) (h0 : 0 < s) : Fits t f s ↔ s ∣ t.m ∧ Per (Dt t) s := by
  have m0 := ok.m0.1
  have md : s ∣ t.m → ∀ g, g % s % t.m = g % s := fun dv g => Nat.mod_eq_of_lt (Nat.lt_of_lt_of_le (Nat.mod_lt _ h0) (Nat.le_of_dvd m0 dv))
  have mm : s ∣ t.m → ∀ g, g % t.m % s = g % s := fun dv g => Nat.mod_mod_of_dvd g dv
  constructor
  · intro h
    refine ⟨h.dv, fun g => ?_⟩
    have hg := Nat.mod_lt g m0
    have a1 : (t.flats[g % t.m]?) = t.flats[g % s % t.m]? := by rw [md h.dv, h.fl _ (by rw [ok.fl]; exact hg), mm h.dv]
    have a2 : (t.steeps[g % t.m]?) = t.steeps[g % s % t.m]? := by rw [md h.dv, h.sl _ (by rw [ok.sl]; exact hg), mm h.dv]
    have a3 := h.bl (g % t.m) (by rw [List.length_map, ok.tl]; exact hg)
    rw [mm h.dv, ← md h.dv g, List.getElem?_map, List.getElem?_map, (begT_at ok g).1, (begT_at ok (g % s)).1] at a3
    have a4 : f (begT t g) = f (begT t (g % s)) := Option.some.inj a3
    have a5 := La_iff.mpr ((cl.eq _ _ (begT_at ok g).2 (begT_at ok (g % s)).2).mp a4)
    unfold Dt
    rw [a1, a2, a5]
  · rintro ⟨dv, p⟩
    have sm := Nat.le_of_dvd m0 dv
    have hs : ∀ i, i % s < t.m := fun i => Nat.lt_of_lt_of_le (Nat.mod_lt _ h0) sm
    refine ⟨dv, fun i hi => ?_, fun i hi => ?_, fun i hi => ?_⟩
    · rw [ok.fl] at hi
      have e := congrArg (fun z : Bool × Bool × Lng => z.1) (p i)
      have e' : (t.flats[i % t.m]?).getD false = (t.flats[i % s % t.m]?).getD false := e
      rw [md dv, Nat.mod_eq_of_lt hi] at e'
      exact getD_inj (by rw [ok.fl]; exact hi) (by rw [ok.fl]; exact hs i) e'
    · rw [ok.sl] at hi
      have e := congrArg (fun z : Bool × Bool × Lng => z.2.1) (p i)
      have e' : (t.steeps[i % t.m]?).getD false = (t.steeps[i % s % t.m]?).getD false := e
      rw [md dv, Nat.mod_eq_of_lt hi] at e'
      exact getD_inj (by rw [ok.sl]; exact hi) (by rw [ok.sl]; exact hs i) e'
    · rw [List.length_map, ok.tl] at hi
      have e : La t (begT t i) = La t (begT t (i % s)) := congrArg (fun z : Bool × Bool × Lng => z.2.2) (p i)
      have e2 := (cl.eq _ _ (begT_at ok i).2 (begT_at ok (i % s)).2).mpr (La_iff.mp e)
      have b1 := (begT_at ok i).1
      have b2 := (begT_at ok (i % s)).1
      rw [Nat.mod_eq_of_lt hi] at b1
      rw [md dv] at b2
      rw [List.getElem?_map, List.getElem?_map, b1, b2, Option.map_some, Option.map_some, e2]
theorem sz_least (ok : Tok t) (cl : Cls t f) (hs : Sz t f s) {a : Nat} (ha : a ∈ mods) (pa : Per (Dt t) a) : s ≤ a := by
  have hmm : t.m ∈ mods := by
    unfold mods
    rcases ok.md with e | e | e | e <;> rw [e] <;> decide
  have pm : Per (Dt t) t.m := fun g => by
    have e := Dt_mod t (g % t.m) (g / t.m)
    rw [Nat.mod_add_div] at e
    exact e
  obtain ⟨d, hd, dv, le, pd⟩ := per_gcd ha hmm pa pm
  have hf := (fits_iff ok cl (mods_pos hd).1).mpr ⟨dv, pd⟩
  have := hs.ls d hd
  by_cases c : d < s
  · exact absurd hf (this c)
  · omega
/-! the walk over the classes, told by languages -/
def LL (t : Tb) (f : Nat → Nat) (c : Nat) : Lng := La t (spF f t.rows.length c)
theorem LL_f (cl : Cls t f) {i : Nat} (hi : i < t.rows.length) : LL t f (f i) = La t i := by
  have h := spF_of (f := f) hi
  exact La_iff.mpr ((cl.eq _ _ h.1 hi).mp h.2)
theorem LL_inj (cl : Cls t f) {c d : Nat} (hc : ∃ i, i < t.rows.length ∧ f i = c) (hd : ∃ i, i < t.rows.length ∧ f i = d) : c = d ↔ LL t f c = LL t f d := by
  obtain ⟨i, hi, rfl⟩ := hc
  obtain ⟨j, hj, rfl⟩ := hd
  rw [LL_f cl hi, LL_f cl hj, La_iff]
  exact cl.eq i j hi hj
theorem map_fstep (cl : Cls t f) {o : List Nat} (ho : Ordl t f o) {c : Nat} (hc : ∃ i, i < t.rows.length ∧ f i = c) : (fstep o c).map (LL t f) = fstep (o.map (LL t f)) (LL t f c) := by
  unfold fstep
  by_cases h : c ∈ o
  · rw [if_pos h, if_pos (List.mem_map_of_mem h)]
  · rw [if_neg h, if_neg, List.map_append]
    · rfl
    · intro z
      obtain ⟨d, hd, e⟩ := List.mem_map.mp z
      have := (LL_inj cl (ho.im d hd) hc).mpr e
      exact h (this ▸ hd)
noncomputable def ordLS (o : List Lng) (k : Nat) : List Lng := match o[k]? with
  | some l => fstep (fstep o (fun w => l (true :: w))) (fun w => l (false :: w))
  | none => o
noncomputable def ordLK (o : List Lng) : Nat → List Lng
  | 0 => o
  | k + 1 => ordLS (ordLK o k) k
theorem map_ordS (ok : Tok t) (cl : Cls t f) {o : List Nat} (ho : Ordl t f o) (k : Nat) : (ordS t f o k).map (LL t f) = ordLS (o.map (LL t f)) k := by
  unfold ordS ordLS
  rw [List.getElem?_map]
  cases e : o[k]? with
  | none => rfl
  | some c =>
    have hs := ho.sp (List.mem_of_getElem? e)
    have h1 : ∃ i, i < t.rows.length ∧ f i = f (goT t (spF f t.rows.length c) true) := ⟨_, goT_lt ok hs.1 true, rfl⟩
    have h2 : ∃ i, i < t.rows.length ∧ f i = f (goT t (spF f t.rows.length c) false) := ⟨_, goT_lt ok hs.1 false, rfl⟩
    show (fstep (fstep o _) _).map (LL t f) = fstep (fstep (o.map (LL t f)) _) _
    rw [map_fstep cl (ho.step (goT_lt ok hs.1 true)) h2, map_fstep cl ho h1, LL_f cl (goT_lt ok hs.1 true), LL_f cl (goT_lt ok hs.1 false)]
    rfl
theorem map_ordK (ok : Tok t) (cl : Cls t f) {o : List Nat} (ho : Ordl t f o) : ∀ k, (ordK t f o k).map (LL t f) = ordLK (o.map (LL t f)) k
  | 0 => rfl
  | k + 1 => by
    show (ordS t f (ordK t f o k) k).map (LL t f) = ordLS (ordLK (o.map (LL t f)) k) k
    rw [map_ordS ok cl (ho.ordK ok k), map_ordK ok cl ho k]
theorem map_firsts (cl : Cls t f) : ∀ (ks : List Nat) (o : List Nat), Ordl t f o → (∀ c ∈ ks, ∃ i, i < t.rows.length ∧ f i = c) → (ks.foldl fstep o).map (LL t f) = (ks.map (LL t f)).foldl fstep (o.map (LL t f))
  | [], _, _, _ => rfl
  | c :: ks, o, ho, h => by
    have hc := h c List.mem_cons_self
    rw [List.map_cons, List.foldl_cons, List.foldl_cons, ← map_fstep cl ho hc]
    obtain ⟨i, hi, e⟩ := hc
    refine map_firsts cl ks _ ?_ fun d hd => h d (List.mem_cons_of_mem _ hd)
    rw [← e]
    exact ho.step hi
theorem begF_im (ok : Tok t) : ∀ c ∈ begF t f s, ∃ i, i < t.rows.length ∧ f i = c := fun c hc => by
  obtain ⟨i, hi, e⟩ := List.mem_map.mp (List.mem_of_mem_take hc)
  exact ⟨i, ok.st i hi, e⟩
theorem begF_map (ok : Tok t) (cl : Cls t f) (hs : Sz t f s) : (begF t f s).map (LL t f) = (List.range s).map fun g => (Dt t g).2.2 := by
  have sle := hs.le ok
  apply List.ext_getElem?
  intro g
  unfold begF
  rw [List.getElem?_map, List.getElem?_map, List.getElem?_take]
  by_cases hg : g < s
  · rw [if_pos hg, List.getElem?_map, List.getElem?_range hg]
    have b := begT_at ok g
    rw [Nat.mod_eq_of_lt (by omega)] at b
    rw [b.1]
    show some (LL t f (f (begT t g))) = some (La t (begT t g))
    rw [LL_f cl b.2]
  · rw [if_neg hg, List.getElem?_eq_none (by rw [List.length_range]; omega)]
    rfl
/-- the least table, told by languages -/
noncomputable def canT (D : Nat → Bool × Bool × Lng) (s n : Nat) : Tb :=
  let o := ordLK (firsts ((List.range s).map fun g => (D g).2.2)) n
  ⟨s, (List.range s).map fun g => (D g).1, (List.range s).map fun g => (D g).2.1, (List.range s).map fun g => idxK o (D g).2.2, o.map fun l => (idxK o (fun w => l (true :: w)), idxK o (fun w => l (false :: w)), l [])⟩
theorem take_eq {α : Type} {d : α} {l : List α} {m s : Nat} (hl : l.length = m) (hs : s ≤ m) : l.take s = (List.range s).map fun g => (l[g % m]?).getD d := by
  apply List.ext_getElem?
  intro g
  rw [List.getElem?_map, List.getElem?_take]
  by_cases hg : g < s
  · rw [if_pos hg, List.getElem?_range hg, Option.map_some, Nat.mod_eq_of_lt (by omega), List.getElem?_eq_getElem (by omega)]
    rfl
  · rw [if_neg hg, List.getElem?_eq_none (by rw [List.length_range]; omega)]
    rfl
theorem leastF_can (ok : Tok t) (cl : Cls t f) (hs : Sz t f s) (j : Nat) : leastF t f s = canT (Dt t) s (t.rows.length + j) := by
  have sle := hs.le ok
  have ob : Ordl t f (firsts (begF t f s)) := ordl_firsts ok
  have hl := (ob.ordK ok t.rows.length).len cl
  have nil0 : Ordl t f [] := ⟨List.nodup_nil, fun c hc => absurd hc List.not_mem_nil⟩
  have eo : (ordF t f s).map (LL t f) = ordLK (firsts ((List.range s).map fun g => (Dt t g).2.2)) (t.rows.length + j) := by
    unfold ordF
    rw [← ordK_stop hl j, map_ordK ok cl ob]
    congr 1
    unfold firsts
    rw [map_firsts cl _ [] nil0 (begF_im ok), begF_map ok cl hs]
    rfl
  have oF : Ordl t f (ordF t f s) := ordF_l ok
  have ix : ∀ c, (∃ i, i < t.rows.length ∧ f i = c) → idxK (ordF t f s) c = idxK ((ordF t f s).map (LL t f)) (LL t f c) := fun c hc => by
    have h := idx_congr (g := id) (g' := LL t f) (i := c) (ordF t f s) fun p hp => LL_inj cl (oF.im p hp) hc
    rw [List.map_id] at h
    exact h
  unfold canT
  dsimp only
  rw [← eo]
  have e1 : t.flats.take s = (List.range s).map fun g => (Dt t g).1 := take_eq ok.fl sle
  have e2 : t.steeps.take s = (List.range s).map fun g => (Dt t g).2.1 := take_eq ok.sl sle
  have e3 : (begF t f s).map (idxK (ordF t f s)) = (List.range s).map fun g => idxK ((ordF t f s).map (LL t f)) (Dt t g).2.2 := by
    have e := begF_map ok cl hs
    have e4 : (begF t f s).map (idxK (ordF t f s)) = ((begF t f s).map (LL t f)).map (idxK ((ordF t f s).map (LL t f))) := by
      rw [List.map_map]
      exact List.map_congr_left fun c hc => ix c (begF_im ok c hc)
    rw [e4, e, List.map_map]
    rfl
  have e5 : (ordF t f s).map (rowF t f (ordF t f s)) = ((ordF t f s).map (LL t f)).map fun l => (idxK ((ordF t f s).map (LL t f)) (fun w => l (true :: w)), idxK ((ordF t f s).map (LL t f)) (fun w => l (false :: w)), l []) := by
    rw [List.map_map]
    refine List.map_congr_left fun c hc => ?_
    have hsp := oF.sp hc
    unfold rowF
    rw [ix _ ⟨_, goT_lt ok hsp.1 true, rfl⟩, ix _ ⟨_, goT_lt ok hsp.1 false, rfl⟩, LL_f cl (goT_lt ok hsp.1 true), LL_f cl (goT_lt ok hsp.1 false)]
    rfl
  unfold leastF
  rw [e1, e2, e3, e5]
end
/-- equal sets have the same least table -/
theorem leastF_canon {t1 t2 : Tb} {f1 f2 : Nat → Nat} {s1 s2 : Nat} (ok1 : Tok t1) (ok2 : Tok t2) (cl1 : Cls t1 f1) (cl2 : Cls t2 f2) (sz1 : Sz t1 f1 s1) (sz2 : Sz t2 f2 s2)
    (h : ∀ x y, ¬ (x = 0 ∧ y = 0) → hasT t1 x y = hasT t2 x y) : leastF t1 f1 s1 = leastF t2 f2 s2 := by
  have e := Dt_eq ok1.m0.1 ok2.m0.1 h
  have p1 := ((fits_iff ok1 cl1 (mods_pos sz1.md).1).mp sz1.ft).2
  have p2 := ((fits_iff ok2 cl2 (mods_pos sz2.md).1).mp sz2.ft).2
  have l1 : s1 ≤ s2 := sz_least ok1 cl1 sz1 sz2.md (by rw [e]; exact p2)
  have l2 : s2 ≤ s1 := sz_least ok2 cl2 sz2 sz1.md (by rw [← e]; exact p1)
  have es : s1 = s2 := Nat.le_antisymm l1 l2
  subst es
  rw [leastF_can ok1 cl1 sz1 t2.rows.length, leastF_can ok2 cl2 sz2 t1.rows.length, e, Nat.add_comm t1.rows.length]
end Bx
-- needs canon
-- imports KE.SortData
/-! the search through a table's words, the shortest first -/
namespace Bx
open PySem PySem.Spec PyProof.Rows L2
/-- the number of a word: shorter ones first, X ahead of Y -/
def Vn (v : Nat) (w : List Bool) : Nat := w.foldl (fun v c => 2 * v + (if c then 0 else 1)) v
/-- the place of a word with a divisor -/
def Kn (w : List Bool) (g : Nat) : Nat := 7 * Vn 1 w + g
theorem Vn_app (v : Nat) (u w : List Bool) : Vn v (u ++ w) = Vn (Vn v u) w := by
  unfold Vn
  rw [List.foldl_append]
theorem Vn_le {v v' : Nat} : ∀ w : List Bool, v < v' → Vn v w < Vn v' w
  | [], h => h
  | c :: w, h => by
    show Vn (2 * v + _) w < Vn (2 * v' + _) w
    exact Vn_le w (by omega)
theorem Vn_lo (v : Nat) : ∀ w : List Bool, v * 2 ^ w.length ≤ Vn v w ∧ Vn v w < (v + 1) * 2 ^ w.length
  | [] => by
    show v * 1 ≤ v ∧ v < (v + 1) * 1
    omega
  | c :: w => by
    have h := Vn_lo (2 * v + (if c then 0 else 1)) w
    have e : Vn v (c :: w) = Vn (2 * v + (if c then 0 else 1)) w := rfl
    have p : 0 < 2 ^ w.length := Nat.two_pow_pos _
    rw [e, List.length_cons, Nat.pow_succ]
    have a1 : v * (2 ^ w.length * 2) = 2 * v * 2 ^ w.length := by rw [Nat.mul_comm (2 ^ w.length) 2, ← Nat.mul_assoc, Nat.mul_comm v 2]
    have a2 : (v + 1) * (2 ^ w.length * 2) = (2 * v + 2) * 2 ^ w.length := by rw [Nat.mul_comm (2 ^ w.length) 2, ← Nat.mul_assoc, Nat.mul_comm (v + 1) 2, Nat.mul_add]
    rw [a1, a2]
    have b1 : 2 * v * 2 ^ w.length ≤ (2 * v + (if c then 0 else 1)) * 2 ^ w.length := Nat.mul_le_mul_right _ (by omega)
    have b2 : (2 * v + (if c then 0 else 1) + 1) * 2 ^ w.length ≤ (2 * v + 2) * 2 ^ w.length := Nat.mul_le_mul_right _ (by cases c <;> simp)
    omega
theorem Vn_len {u w : List Bool} (h : u.length < w.length) : Vn 1 u < Vn 1 w := by
  have a := (Vn_lo 1 u).2
  have b := (Vn_lo 1 w).1
  have c : 2 ^ (u.length + 1) ≤ 2 ^ w.length := Nat.pow_le_pow_right (by decide) h
  rw [Nat.pow_succ] at c
  omega
theorem Vn_mono {u w : List Bool} (h : Vn 1 u ≤ Vn 1 w) : u.length ≤ w.length := by
  rcases Nat.lt_or_ge w.length u.length with q | q
  · have := Vn_len q
    omega
  · exact q
theorem Vn_inj : ∀ {u w : List Bool} {v : Nat}, u.length = w.length → Vn v u = Vn v w → u = w
  | [], [], _, _, _ => rfl
  | [], _ :: _, _, h, _ => by cases h
  | _ :: _, [], _, h, _ => by cases h
  | a :: u, b :: w, v, h, e => by
    have hl : u.length = w.length := Nat.succ.inj h
    have e' : Vn (2 * v + (if a then 0 else 1)) u = Vn (2 * v + (if b then 0 else 1)) w := e
    have l1 := Vn_lo (2 * v + (if a then 0 else 1)) u
    have l2 := Vn_lo (2 * v + (if b then 0 else 1)) w
    rw [← hl] at l2
    cases a <;> cases b
    · rw [Vn_inj hl e']
    · have := Vn_le (v := 2 * v) (v' := 2 * v + 1) w (by omega)
      simp at l1 l2 e'
      omega
    · simp at l1 l2 e'
      omega
    · rw [Vn_inj hl e']
theorem Vn_eq {u w : List Bool} (e : Vn 1 u = Vn 1 w) : u = w :=
  Vn_inj (Nat.le_antisymm (Vn_mono (Nat.le_of_eq e)) (Vn_mono (Nat.le_of_eq e.symm))) e
theorem Kn_app {u u' : List Bool} {g g' : Nat} (h : Kn u' g' < Kn u g) (h1 : 1 ≤ g) (h6 : g ≤ 6) (h1' : 1 ≤ g') (h6' : g' ≤ 6) (v : List Bool) : Kn (u' ++ v) g' < Kn (u ++ v) g := by
  unfold Kn at h ⊢
  rw [Vn_app, Vn_app]
  rcases Nat.lt_or_ge (Vn 1 u') (Vn 1 u) with q | q
  · have := Vn_le v q
    omega
  · have e : Vn 1 u' = Vn 1 u := by omega
    rw [e] at h ⊢
    omega
theorem Kn_eq {u w : List Bool} {g g' : Nat} (h1 : 1 ≤ g) (h6 : g ≤ 6) (h1' : 1 ≤ g') (h6' : g' ≤ 6) (e : Kn u g = Kn w g') : u = w ∧ g = g' := by
  unfold Kn at e
  have : Vn 1 u = Vn 1 w := by omega
  exact ⟨Vn_eq this, by omega⟩
/-! the text of a word -/
def wordL (w : List Bool) : List Nat := w.map fun c => if c then 88 else 89
def wordS (w : List Bool) : Str := ⟨(wordL w).toArray⟩
theorem wordS_snoc (w : List Bool) (c : Bool) : wordS w ++ letS c = wordS (w ++ [c]) := by
  refine PySem.W.str_of_cps ?_
  show ((wordL w).toArray ++ (letS c).cps).toList = _
  rw [Array.toList_append]
  unfold wordS wordL
  rw [List.map_append]
  cases c <;> rfl
theorem wordL_lt : ∀ {u w : List Bool} {v v' : Nat}, u.length = w.length → v ≤ v' → Vn v u < Vn v' w → v < v' ∨ wordL u < wordL w
  | [], [], v, v', _, _, h => .inl h
  | [], _ :: _, _, _, h, _, _ => by cases h
  | _ :: _, [], _, _, h, _, _ => by cases h
  | a :: u, b :: w, v, v', h, hv, e => by
    have hl : u.length = w.length := Nat.succ.inj h
    rcases Nat.lt_or_ge v v' with q | q
    · exact .inl q
    obtain rfl : v = v' := by omega
    right
    have e' : Vn (2 * v + (if a then 0 else 1)) u < Vn (2 * v + (if b then 0 else 1)) w := e
    show (_ :: wordL u) < (_ :: wordL w)
    cases a <;> cases b
    · rcases wordL_lt hl (Nat.le_refl _) e' with q | q
      · omega
      · exact List.Lex.cons q
    · have l1 := (Vn_lo (2 * v + 1) u).1
      have l2 := (Vn_lo (2 * v) w).2
      rw [← hl] at l2
      simp at e'
      omega
    · exact List.Lex.rel (by decide)
    · rcases wordL_lt hl (Nat.le_refl _) e' with q | q
      · omega
      · exact List.Lex.cons q
/-- a row of the search: the word, the divisor, the spot -/
abbrev Br : Type := List Bool × Nat × Nat
def brD (k : Br) : PyData := .tuple [.str (wordS k.1), .int (k.2.1 : Int), .int (k.2.2 : Int)]
theorem br_less {a b : Br} (hl : a.1.length = b.1.length) (h1 : 1 ≤ a.2.1) (h6 : a.2.1 ≤ 6) (g1 : 1 ≤ b.2.1) (g6 : b.2.1 ≤ 6) (h : Kn a.1 a.2.1 < Kn b.1 b.2.1) : PySem.W.dataLt (brD a) (brD b) = true := by
  unfold brD
  rw [PySem.W.dataLt_tuple, PySem.W.dataLt_cons (by simp [PySem.W.alike]), PySem.W.dataLt_cons (by simp [PySem.W.alike])]
  unfold Kn at h
  by_cases e : a.1 = b.1
  · rw [e] at h ⊢
    rw [if_pos (by simp [PyData.eqv]), if_neg (by simp only [PyData.eqv, beq_iff_eq]; omega), PySem.W.dataLt_int]
    exact decide_eq_true (by omega)
  · have hv : Vn 1 a.1 < Vn 1 b.1 := by
      rcases Nat.lt_or_ge (Vn 1 a.1) (Vn 1 b.1) with q | q
      · exact q
      · exact absurd (Vn_eq (show Vn 1 a.1 = Vn 1 b.1 by omega)) e
    have hw := (wordL_lt hl (Nat.le_refl 1) hv).resolve_left (by omega)
    rw [if_neg, PySem.W.dataLt_str]
    · exact decide_eq_true hw
    · intro z
      simp only [PyData.eqv, beq_iff_eq] at z
      have z2 : wordL a.1 = wordL b.1 := by
        have := congrArg (fun s : Str => s.cps.toList) z
        exact this
      rw [z2] at hw
      exact absurd hw (List.lt_irrefl _)
/-- where a word leads from a divisor -/
def spW (t : Tb) (w : List Bool) (g : Nat) : Nat := goW t w (begT t g)
theorem spW_app (t : Tb) (u v : List Bool) (g : Nat) : spW t (u ++ v) g = goW t v (spW t u g) := by
  unfold spW goW
  rw [List.foldl_append]
structure Rng (t : Tb) (g : Nat) : Prop where
  a : 1 ≤ g
  b : g ≤ t.m
structure Lev (t : Tb) (n : Nat) (keys : List Br) (seen : Nat → Prop) : Prop where
  key : ∀ k ∈ keys, k.1.length = n ∧ Rng t k.2.1 ∧ k.2.2 = spW t k.1 k.2.1
  none : ∀ w g, w.length ≤ n → Rng t g → goodT t (spW t w g) = false
  cov : ∀ w g, w.length = n → Rng t g → (w, g, spW t w g) ∈ keys ∨ ∃ w' g', Kn w' g' < Kn w g ∧ Rng t g' ∧ spW t w' g' = spW t w g
  seen : ∀ s, seen s → ∃ w' g', w'.length ≤ n ∧ Rng t g' ∧ spW t w' g' = s
theorem Kn_len {w w' : List Bool} {g g' : Nat} (h : w.length < w'.length) (h1 : 1 ≤ g') (h6 : g ≤ 6) : Kn w g < Kn w' g' := by
  have := Vn_len h
  unfold Kn
  omega
theorem Lev.start {t : Tb} (hg : ∀ g, Rng t g → goodT t (begT t g) = false) {keys : List Br} (hk : ∀ k ∈ keys, k.1 = [] ∧ Rng t k.2.1 ∧ k.2.2 = begT t k.2.1) (ha : ∀ g, Rng t g → (([], g, begT t g) : Br) ∈ keys) : Lev t 0 keys fun _ => False where
  key k hm := by
    obtain ⟨e1, e2, e3⟩ := hk k hm
    rw [e1]
    exact ⟨rfl, e2, e3⟩
  none w g hw hr := by
    cases w with
    | nil => exact hg g hr
    | cons c w => simp at hw
  cov w g hw hr := by
    cases w with
    | nil => exact .inl (ha g hr)
    | cons c w => simp at hw
  seen s h := h.elim
/-- the search has nothing left: no word is accepted -/
theorem Lev.done {t : Tb} (ok : Tok t) {n : Nat} {seen : Nat → Prop} (L : Lev t n [] seen) (w : List Bool) (g : Nat) (hr : Rng t g) : goodT t (spW t w g) = false := by
  have key : ∀ N w g, Kn w g < N → Rng t g → goodT t (spW t w g) = false := by
    intro N
    induction N with
    | zero => intro w g h; omega
    | succ N ih =>
      intro w g h hr
      rcases Nat.lt_or_ge n w.length with q | q
      · have e : w = w.take n ++ w.drop n := (List.take_append_drop n w).symm
        have hl : (w.take n).length = n := by rw [List.length_take]; omega
        rcases L.cov (w.take n) g hl hr with z | ⟨w', g', h1, h2, h3⟩
        · cases z
        · have k := Kn_app h1 hr.a (Nat.le_trans hr.b ok.m0.2) h2.a (Nat.le_trans h2.b ok.m0.2) (w.drop n)
          rw [← e] at k
          have := ih (w' ++ w.drop n) g' (by omega) h2
          rw [spW_app, h3, ← spW_app, ← e] at this
          exact this
      · exact L.none w g q hr
  exact key _ w g (Nat.lt_succ_self _) hr
/-- all rows one letter on -/
def onW (t : Tb) (keys : List Br) : List Br := keys.flatMap fun k => [(k.1 ++ [true], k.2.1, goT t k.2.2 true), (k.1 ++ [false], k.2.1, goT t k.2.2 false)]
theorem mem_onW {t : Tb} {keys : List Br} {k : Br} : k ∈ onW t keys ↔ ∃ q ∈ keys, ∃ c, k = (q.1 ++ [c], q.2.1, goT t q.2.2 c) := by
  unfold onW
  rw [List.mem_flatMap]
  constructor
  · rintro ⟨q, hq, h⟩
    rcases List.mem_cons.mp h with h | h
    · exact ⟨q, hq, true, h⟩
    · exact ⟨q, hq, false, List.mem_singleton.mp h⟩
  · rintro ⟨q, hq, c, h⟩
    refine ⟨q, hq, ?_⟩
    cases c
    · rw [h]; exact List.mem_cons_of_mem _ (List.mem_singleton.mpr rfl)
    · rw [h]; exact List.mem_cons_self ..
structure Srt (t : Tb) (n : Nat) (keys L : List Br) : Prop where
  mem : ∀ k, k ∈ L ↔ k ∈ onW t keys
  ord : L.Pairwise fun a b => Kn a.1 a.2.1 ≤ Kn b.1 b.2.1
theorem Lev.on {t : Tb} {n : Nat} {keys : List Br} {seen : Nat → Prop} (L : Lev t n keys seen) {k : Br} (h : k ∈ onW t keys) : k.1.length = n + 1 ∧ Rng t k.2.1 ∧ k.2.2 = spW t k.1 k.2.1 := by
  obtain ⟨q, hq, c, rfl⟩ := mem_onW.mp h
  obtain ⟨h1, h2, h3⟩ := L.key q hq
  refine ⟨by rw [List.length_append, h1]; rfl, h2, ?_⟩
  rw [spW_app, ← h3]
  rfl
theorem Lev.srt {t : Tb} (ok : Tok t) {n : Nat} {keys : List Br} {seen : Nat → Prop} (L : Lev t n keys seen) : Srt t n keys ((onW t keys).mergeSort (PySem.W.dataLe false brD)) := by
  have pm := List.mergeSort_perm (onW t keys) (PySem.W.dataLe false brD)
  refine ⟨fun k => pm.mem_iff, ?_⟩
  have q : ((onW t keys).mergeSort (PySem.W.dataLe false brD)).Pairwise fun a b => PySem.W.dataLe false brD a b = true := by
    have TL := PySem.W.sortLe_total (PyProof.Rows.listOrd PyProof.Rows.itemOrd) false fun b : Br => PySem.W.keyToks (brD b)
    exact List.pairwise_mergeSort (fun a b c h1 h2 => TL.trans a b c h1 h2) (fun a b => Bool.or_eq_true_iff.mpr (TL.total a b)) _
  refine q.imp_of_mem fun {a b} ha hb h => ?_
  obtain ⟨a1, a2, a3⟩ := L.on (pm.mem_iff.mp ha)
  obtain ⟨b1, b2, b3⟩ := L.on (pm.mem_iff.mp hb)
  rcases Nat.lt_or_ge (Kn b.1 b.2.1) (Kn a.1 a.2.1) with z | z
  · have := br_less (by rw [a1, b1]) b2.a (Nat.le_trans b2.b ok.m0.2) a2.a (Nat.le_trans a2.b ok.m0.2) z
    rw [PySem.W.dataLe_eq] at h
    simp only [cond_false] at h
    rw [this] at h
    cases h
  · exact z
structure Mid (t : Tb) (n : Nat) (keys L : List Br) (i : Nat) (more : List Br) (seen : Nat → Prop) : Prop where
  key : ∀ k ∈ more, k ∈ L.take i
  none : ∀ k ∈ L.take i, goodT t k.2.2 = false
  cov : ∀ k ∈ L.take i, k ∈ more ∨ ∃ w' g', Kn w' g' < Kn k.1 k.2.1 ∧ Rng t g' ∧ spW t w' g' = k.2.2
  seen : ∀ s, seen s → (∃ w' g', w'.length ≤ n ∧ Rng t g' ∧ spW t w' g' = s) ∨ ∃ k ∈ L.take i, k.2.2 = s
section
variable {t : Tb} {n : Nat} {keys L : List Br} {seen0 : Nat → Prop} {i : Nat} {more : List Br} {seen : Nat → Prop}
theorem Mid.start (Lv : Lev t n keys seen0) : Mid t n keys L 0 [] seen0 := ⟨fun k h => (by cases h), fun k h => (by cases h), fun k h => (by cases h), fun s h => Or.inl (Lv.seen s h)⟩
theorem take_snoc {α : Type} {l : List α} {i : Nat} {k : α} (h : l[i]? = some k) : l.take (i + 1) = l.take i ++ [k] := by
  rw [List.take_add_one, h]
  rfl
theorem Mid.new (M : Mid t n keys L i more seen) {k : Br} (hk : L[i]? = some k) (hg : goodT t k.2.2 = false) : Mid t n keys L (i + 1) (more ++ [k]) (fun s => s = k.2.2 ∨ seen s) where
  key x h := by
    rw [take_snoc hk]
    rcases List.mem_append.mp h with h | h
    · exact List.mem_append_left _ (M.key x h)
    · exact List.mem_append_right _ h
  none x h := by
    rw [take_snoc hk] at h
    rcases List.mem_append.mp h with h | h
    · exact M.none x h
    · rw [List.mem_singleton.mp h]; exact hg
  cov x h := by
    rw [take_snoc hk] at h
    rcases List.mem_append.mp h with h | h
    · rcases M.cov x h with q | q
      · exact .inl (List.mem_append_left _ q)
      · exact .inr q
    · exact .inl (List.mem_append_right _ h)
  seen s h := by
    rw [take_snoc hk]
    rcases h with h | h
    · exact .inr ⟨k, List.mem_append_right _ (List.mem_singleton.mpr rfl), h.symm⟩
    · rcases M.seen s h with q | ⟨x, hx, e⟩
      · exact .inl q
      · exact .inr ⟨x, List.mem_append_left _ hx, e⟩
theorem Mid.old (ok : Tok t) (Lv : Lev t n keys seen0) (S : Srt t n keys L) (M : Mid t n keys L i more seen) {k : Br} (hk : L[i]? = some k) (hg : goodT t k.2.2 = false) (hs : seen k.2.2) : Mid t n keys L (i + 1) more seen where
  key x h := by
    rw [take_snoc hk]
    exact List.mem_append_left _ (M.key x h)
  none x h := by
    rw [take_snoc hk] at h
    rcases List.mem_append.mp h with h | h
    · exact M.none x h
    · rw [List.mem_singleton.mp h]; exact hg
  cov x h := by
    rw [take_snoc hk] at h
    rcases List.mem_append.mp h with h | h
    · exact M.cov x h
    · rw [List.mem_singleton.mp h]
      obtain ⟨k1, k2, k3⟩ := Lv.on ((S.mem k).mp (List.mem_of_getElem? hk))
      rcases M.seen _ hs with ⟨w', g', h1, h2, h3⟩ | ⟨q, hq, e⟩
      · exact .inr ⟨w', g', Kn_len (by omega) k2.a (Nat.le_trans h2.b ok.m0.2), h2, h3⟩
      · obtain ⟨q1, q2, q3⟩ := Lv.on ((S.mem q).mp (List.mem_of_mem_take hq))
        have le : Kn q.1 q.2.1 ≤ Kn k.1 k.2.1 := by
          obtain ⟨j, hj⟩ := List.getElem?_of_mem hq
          rw [List.getElem?_take] at hj
          split at hj
          · rename_i ji
            obtain ⟨lj, ej⟩ := List.getElem?_eq_some_iff.mp hj
            obtain ⟨li, ei⟩ := List.getElem?_eq_some_iff.mp hk
            have := List.pairwise_iff_getElem.mp S.ord j i lj li ji
            rw [ej, ei] at this
            exact this
          · cases hj
        rcases Nat.lt_or_ge (Kn q.1 q.2.1) (Kn k.1 k.2.1) with z | z
        · exact .inr ⟨q.1, q.2.1, z, q2, by rw [← q3]; exact e⟩
        · obtain ⟨e1, e2⟩ := Kn_eq q2.a (Nat.le_trans q2.b ok.m0.2) k2.a (Nat.le_trans k2.b ok.m0.2) (Nat.le_antisymm le z)
          have eq : q = k := Prod.ext e1 (Prod.ext e2 e)
          rw [← eq]
          exact M.cov q hq
  seen s h := by
    rw [take_snoc hk]
    rcases M.seen s h with q | ⟨x, hx, e⟩
    · exact .inl q
    · exact .inr ⟨x, List.mem_append_left _ hx, e⟩
/-- each word one letter longer is a row, or an earlier one leads to the same spot -/
theorem Lev.longer (ok : Tok t) (Lv : Lev t n keys seen0) (w : List Bool) (g : Nat) (hw : w.length = n + 1) (hr : Rng t g) :
    (w, g, spW t w g) ∈ onW t keys ∨ ∃ w' g', Kn w' g' < Kn w g ∧ Rng t g' ∧ spW t w' g' = spW t w g := by
  obtain ⟨u, c, rfl⟩ : ∃ u c, w = u ++ [c] := by
    rcases List.eq_nil_or_concat w with h | ⟨u, c, h⟩
    · rw [h] at hw; cases hw
    · exact ⟨u, c, by rw [h, List.concat_eq_append]⟩
  have hu : u.length = n := by rw [List.length_append] at hw; simpa using hw
  rcases Lv.cov u g hu hr with h | ⟨w', g', h1, h2, h3⟩
  · exact .inl (mem_onW.mpr ⟨_, h, c, by rw [spW_app]; rfl⟩)
  · refine .inr ⟨w' ++ [c], g', Kn_app h1 hr.a (Nat.le_trans hr.b ok.m0.2) h2.a (Nat.le_trans h2.b ok.m0.2) _, h2, ?_⟩
    rw [spW_app, h3, spW_app]
theorem Mid.next (ok : Tok t) (Lv : Lev t n keys seen0) (S : Srt t n keys L) (M : Mid t n keys L L.length more seen) : Lev t (n + 1) more seen := by
  rw [show Mid t n keys L L.length more seen = Mid t n keys L L.length more seen from rfl] at M
  have tk : L.take L.length = L := List.take_length
  have nn : ∀ N w g, Kn w g < N → w.length = n + 1 → Rng t g → goodT t (spW t w g) = false := by
    intro N
    induction N with
    | zero => intro w g h; omega
    | succ N ih =>
      intro w g h hw hr
      rcases Lv.longer ok w g hw hr with q | ⟨w', g', h1, h2, h3⟩
      · exact M.none _ (by rw [tk]; exact (S.mem _).mpr q)
      · rw [← h3]
        have hl : w'.length ≤ n + 1 := by
          rcases Nat.lt_or_ge w.length w'.length with z | z
          · have := Kn_len z h2.a (Nat.le_trans hr.b ok.m0.2) (g := g)
            omega
          · omega
        rcases Nat.lt_or_ge n w'.length with z | z
        · exact ih w' g' (by omega) (by omega) h2
        · exact Lv.none w' g' z h2
  refine ⟨fun k h => ?_, fun w g hw hr => ?_, fun w g hw hr => ?_, fun s h => ?_⟩
  · have := M.key k h
    rw [tk] at this
    exact Lv.on ((S.mem k).mp this)
  · rcases Nat.lt_or_ge n w.length with z | z
    · exact nn _ w g (Nat.lt_succ_self _) (by omega) hr
    · exact Lv.none w g z hr
  · rcases Lv.longer ok w g hw hr with q | q
    · rcases M.cov (w, g, spW t w g) (by rw [tk]; exact (S.mem _).mpr q) with z | z
      · exact .inl z
      · exact .inr z
    · exact .inr q
  · rcases M.seen s h with ⟨w', g', h1, h2, h3⟩ | ⟨k, hk, e⟩
    · exact ⟨w', g', by omega, h2, h3⟩
    · rw [tk] at hk
      obtain ⟨k1, k2, k3⟩ := Lv.on ((S.mem k).mp hk)
      exact ⟨k.1, k.2.1, by omega, k2, by rw [← k3]; exact e⟩
/-- the first accepted row is the first accepted word of all -/
theorem Mid.found (ok : Tok t) (Lv : Lev t n keys seen0) (S : Srt t n keys L) (M : Mid t n keys L i more seen) {k : Br} (hk : L[i]? = some k) {w : List Bool} {g : Nat} (hr : Rng t g) (hg : goodT t (spW t w g) = true) : Kn k.1 k.2.1 ≤ Kn w g := by
  obtain ⟨k1, k2, k3⟩ := Lv.on ((S.mem k).mp (List.mem_of_getElem? hk))
  have key : ∀ N w g, Kn w g < N → Kn w g < Kn k.1 k.2.1 → Rng t g → goodT t (spW t w g) = false := by
    intro N
    induction N with
    | zero => intro w g h; omega
    | succ N ih =>
      intro w g h hlt hr
      have hl : w.length ≤ n + 1 := by
        rcases Nat.lt_or_ge k.1.length w.length with z | z
        · have := Kn_len z hr.a (Nat.le_trans k2.b ok.m0.2) (g := k.2.1)
          omega
        · omega
      rcases Nat.lt_or_ge n w.length with z | z
      · rcases Lv.longer ok w g (by omega) hr with q | ⟨w', g', h1, h2, h3⟩
        · obtain ⟨j, hj⟩ := List.getElem?_of_mem ((S.mem _).mpr q)
          obtain ⟨lj, ej⟩ := List.getElem?_eq_some_iff.mp hj
          obtain ⟨li, ei⟩ := List.getElem?_eq_some_iff.mp hk
          rcases Nat.lt_or_ge j i with ji | ji
          · refine M.none (w, g, spW t w g) (List.mem_of_getElem? (i := j) ?_)
            rw [List.getElem?_take, if_pos ji, hj]
          · exfalso
            rcases Nat.lt_or_ge i j with ij | ij
            · have := List.pairwise_iff_getElem.mp S.ord i j li lj ij
              rw [ej, ei] at this
              dsimp only at this
              omega
            · obtain rfl : i = j := by omega
              rw [hk] at hj
              cases hj
              exact Nat.lt_irrefl _ hlt
        · rw [← h3]
          exact ih w' g' (by omega) (by omega) h2
      · exact Lv.none w g z hr
  rcases Nat.lt_or_ge (Kn w g) (Kn k.1 k.2.1) with z | z
  · rw [key _ w g (Nat.lt_succ_self _) z hr] at hg
    cases hg
  · exact z
end
end Bx
-- needs pairs
namespace Bx
open PySem PySem.Spec PyProof.Rows L2
/-- the letters as a text -/
def sgn (l : List Bool) : Str := ⟨(l.map fun b => if b then 88 else 89).toArray⟩
theorem sgn_nil : sgn [] = ("" : Str) := by decide +kernel
theorem sgn_x (l : List Bool) : sgn l ++ ("X" : Str) = sgn (l ++ [true]) := by
  have e : ("X" : Str) = ⟨#[88]⟩ := by decide +kernel
  rw [e]
  show Str.append _ _ = _
  unfold Str.append sgn
  simp
theorem sgn_y (l : List Bool) : sgn l ++ ("Y" : Str) = sgn (l ++ [false]) := by
  have e : ("Y" : Str) = ⟨#[89]⟩ := by decide +kernel
  rw [e]
  show Str.append _ _ = _
  unfold Str.append sgn
  simp
theorem sgn_len (l : List Bool) : (sgn l).length = l.length := by
  show (List.toArray _).size = _
  simp
end Bx
-- needs lists
namespace Bx
open PySem PySem.Spec PyProof.Rows L2
/-- a text n times -/
def rep (z : Str) (n : Nat) : Str := ⟨((List.replicate n z.cps.toList).flatten).toArray⟩
theorem foldl_app : ∀ (n : Nat) (a acc : Array Nat), (List.replicate n a).foldl (· ++ ·) acc = acc ++ ((List.replicate n a.toList).flatten).toArray
  | 0, _, acc => by simp
  | n + 1, a, acc => by
    rw [List.replicate_succ, List.foldl_cons, foldl_app n a, List.replicate_succ, List.flatten_cons]
    apply Array.ext'
    simp
theorem rep_mul (z : Str) (n : Int) : PySem.Txt.mul z n = rep z n.toNat := by
  unfold PySem.Txt.mul
  by_cases h : n < 1
  · rw [if_pos h, show n.toNat = 0 by omega]
    rfl
  · rw [if_neg h]
    by_cases h2 : (n == 1 || z.length == 0) = true
    · rw [if_pos h2]
      rcases Bool.or_eq_true_iff.mp h2 with e | e
      · have e1 : n = 1 := eq_of_beq e
        subst e1
        unfold rep
        simp
      · have e1 : z.length = 0 := eq_of_beq e
        have e2 : z.cps = #[] := Array.eq_empty_of_size_eq_zero e1
        have e3 : ∀ m : Nat, (List.replicate m ([] : List Nat)).flatten = [] := fun m => by induction m with
          | zero => rfl
          | succ m ih => rw [List.replicate_succ, List.flatten_cons, ih]; rfl
        unfold rep
        rw [e2]
        show z = ⟨((List.replicate n.toNat ([] : List Nat)).flatten).toArray⟩
        rw [e3]
        cases z
        simp at e2
        rw [e2]
    · rw [if_neg h2]
      unfold rep
      rw [foldl_app]
      simp
theorem op_mul_str {X : Cx} : OpR X (binaryOp .Mult) (fun x y H Q => ∃ (z : Str) (n : Int), x = .str z ∧ y = .int n ∧ 0 ≤ n ∧ n ≤ 1000000 ∧ z.length * n.toNat ≤ 1000000 ∧ Q (.str (rep z n.toNat)) H) := by
  intro pins s σ H x y v u Q I rx ry h
  obtain ⟨z, n, rfl, rfl, h0, h1, h2, q⟩ := h
  obtain ⟨t, rfl⟩ := rx
  obtain ⟨t', rfl⟩ := ry
  refine PySem.SB.mul ⟨?_, fun c _ => ?_, fun c _ => ?_⟩ fun t2 k => ⟨.str (rep z n.toNat), H, I.tok _, ⟨t2, by rw [rep_mul]⟩, q⟩
  · rw [decide_eq_false (by omega), decide_eq_false (by omega)]
    rfl
  · have e : (z.length : Int) * n ≤ 2 ^ 63 - 1 := by
      have e1 : ((z.length * n.toNat : Nat) : Int) = (z.length : Int) * n := by
        rw [Int.natCast_mul, show ((n.toNat : Nat) : Int) = n by omega]
      have e2 : ((z.length * n.toNat : Nat) : Int) ≤ 1000000 := by omega
      omega
    have := (Int.le_ediv_iff_mul_le (by omega : (0 : Int) < n)).mpr e
    omega
  · unfold Builtin.Str.tooLong
    exact decide_eq_false (by rw [sizeLine_eq]; omega)
end Bx
-- needs signs strmul
namespace Bx
open PySem PySem.Spec PyProof.Rows L2
theorem dm_rest {x y : Nat} (h : 0 < y) (h2 : x > y) : x - (x - 1) / y * y ≤ y := by
  have e : (x - 1) / y * y + (x - 1) % y = x - 1 := by rw [Nat.mul_comm]; exact Nat.div_add_mod _ _
  have m : (x - 1) % y < y := Nat.mod_lt _ h
  omega
/-- the first run's letter -/
theorem R_head {x y : Nat} {r : Bool × Nat} (h : (R x y)[0]? = some r) : 0 < x ∧ 0 < y ∧ x ≠ y ∧ (r.1 = true ↔ x > y) := by
  by_cases c : 0 < x ∧ 0 < y ∧ x ≠ y
  · refine ⟨c.1, c.2.1, c.2.2, ?_⟩
    by_cases c2 : x > y
    · rw [R_x c.2.1 c2] at h
      cases h
      exact ⟨fun _ => c2, fun _ => rfl⟩
    · rw [R_y c.1 (by omega)] at h
      cases h
      exact ⟨fun q => (by cases q), fun q => absurd q c2⟩
  · rw [R_nil c] at h
    cases h
theorem R_alt (x y : Nat) : ∀ (i : Nat) (r s : Bool × Nat), (R x y)[i]? = some r → (R x y)[i + 1]? = some s → r.1 ≠ s.1 := by
  intro i r s h1 h2
  by_cases c : 0 < x ∧ 0 < y ∧ x ≠ y
  · by_cases c2 : x > y
    · have d := dm_lt c.2.1 c2
      rw [R_x c.2.1 c2] at h1 h2
      rw [List.getElem?_cons_succ] at h2
      cases i with
      | zero =>
        cases h1
        have q := R_head h2
        have q2 := dm_rest c.2.1 c2
        intro e
        have := q.2.2.2.mp e.symm
        omega
      | succ i =>
        rw [List.getElem?_cons_succ] at h1
        exact R_alt _ y i r s h1 h2
    · have c3 : y > x := by omega
      have d := dm_lt c.1 c3
      rw [R_y c.1 c3] at h1 h2
      rw [List.getElem?_cons_succ] at h2
      cases i with
      | zero =>
        cases h1
        have q := R_head h2
        have q2 := dm_rest c.1 c3
        intro e
        have e2 : s.1 = false := e.symm
        have : ¬ (x > y - (y - 1) / x * x) := fun z => by
          have := q.2.2.2.mpr z
          rw [e2] at this
          cases this
        omega
      | succ i =>
        rw [List.getElem?_cons_succ] at h1
        exact R_alt x _ i r s h1 h2
  · rw [R_nil c] at h1
    cases h1
termination_by x + y
/-- texts one behind another -/
theorem glue_fold : ∀ (ps : List Str) (acc : Array Nat), ps.foldl (fun acc p => acc ++ (#[] : Array Nat) ++ p.cps) acc = acc ++ ((ps.map fun p => p.cps.toList).flatten).toArray
  | [], acc => by simp
  | p :: ps, acc => by
    rw [List.foldl_cons, glue_fold ps, List.map_cons, List.flatten_cons]
    apply Array.ext'
    simp
theorem join_empty (ps : List Str) : PySem.Txt.join (⟨#[]⟩ : Str) ps = ⟨((ps.map fun p => p.cps.toList).flatten).toArray⟩ := by
  show (⟨(ps.drop 1).foldl (fun acc p => acc ++ (#[] : Array Nat) ++ p.cps) (ps.headD Str.empty).cps⟩ : Str) = _
  rw [glue_fold]
  cases ps with
  | nil => rfl
  | cons p ps =>
    congr 1
    apply Array.ext'
    simp
theorem rep_let (c : Bool) (n : Nat) : (rep (letS c) n).cps.toList = (List.replicate n c).map fun b => if b then 88 else 89 := by
  have e : (letS c).cps.toList = [if c then 88 else 89] := by
    cases c
    · decide +kernel
    · decide +kernel
  unfold rep
  rw [e]
  show (List.replicate n [if c = true then 88 else 89]).flatten = _
  induction n with
  | zero => rfl
  | succ n ih => rw [List.replicate_succ, List.flatten_cons, ih, List.replicate_succ]; rfl
theorem join_runs (l : List (Bool × Nat)) : PySem.Txt.join (⟨#[]⟩ : Str) (l.map fun r => rep (letS r.1) r.2) = sgn (spell l) := by
  rw [join_empty]
  show _ = (⟨_⟩ : Str)
  congr 2
  induction l with
  | nil => rfl
  | cons r l ih =>
    rw [List.map_cons, List.map_cons, List.flatten_cons, ih, rep_let]
    show _ = (List.replicate r.2 r.1 ++ spell l).map _
    rw [List.map_append]
theorem rep_len (c : Bool) (n : Nat) : (rep (letS c) n).length = n := by
  have e := congrArg List.length (rep_let c n)
  rw [List.length_map, List.length_replicate] at e
  exact e
theorem rep_lens (l : List (Bool × Nat)) : ((l.map fun r => rep (letS r.1) r.2).map (·.length)).sum = (spell l).length := by
  rw [spell_len, List.map_map]
  congr 1
  apply List.map_congr_left
  intro r _
  exact rep_len r.1 r.2
theorem lets_len (c : Bool) : (letS c).length = 1 := by
  cases c
  · decide +kernel
  · decide +kernel
/-- one run's count is among the letters -/
theorem run_le {l : List (Bool × Nat)} {i : Nat} {r : Bool × Nat} (h : l[i]? = some r) : r.2 ≤ (spell l).length := by
  rw [spell_len]
  have := List.mem_of_getElem? h
  induction l generalizing i with
  | nil => cases this
  | cons a l ih =>
    rw [List.map_cons, List.sum_cons]
    rcases List.mem_cons.mp this with e | e
    · rw [e]; omega
    · obtain ⟨j, hj⟩ := List.getElem?_of_mem e
      have := ih hj e
      omega
end Bx
-- needs lists
-- imports HandS.Text KE.KRevSl HandS.ReplaceLit
namespace Bx
open PySem PySem.Spec PyProof.Rows L2
/-- a text backward -/
def revS (z : Str) : Str := ⟨z.cps.toList.reverse.toArray⟩
theorem revS_len (z : Str) : (revS z).length = z.length := by
  unfold revS
  simp [Str.length]
theorem indices_rev (n : Nat) : Builtin.Str.strSliceIndices none none (-1) n = (List.range n).reverse := by
  show sliceRange ((n : Int) - 1) (-1) (-1) = _
  rw [PySem.W.krv_sliceRange, PySem.W.krv_range]
theorem all_cps (xs : Array Nat) : (List.range xs.size).filterMap (xs[·]?) = xs.toList := PySem.W.krv_all xs
def tRevS (te : TE) : TE := fun σ H Q => te σ H fun x H1 => ∃ z, x = .str z ∧ z.length ≤ sizeLine ∧ Q (.str (revS z)) H1
section
variable {X : Cx}
theorem pe_revS {e : Expr} {te : TE} {k : Nat} {p1 p2 p3 pos : Pos} (he : PE X e te) : PE X (.Subscript e (.Slice none none (some (.UnaryOp .USub (.Constant (.int 1) k p1) p2)) p3) pos) (tRevS te) := by
  refine ⟨fun pins s σ H Q I h => ?_⟩
  refine Subscript_ (thn (he.run pins s σ H _ I h) fun v s1 ⟨x, H1, I1, r1, q1⟩ => ?_)
  obtain ⟨z, ex, hz, q⟩ := q1
  subst ex
  obtain ⟨t, rfl⟩ := r1
  have hst : PO X (some (.UnaryOp .USub (.Constant (.int 1) k p1) p2)) (tPart (tUn (rU fun i => .int (-i)) (tC (.int 1)))) := po_some (pe_un un_neg pe_int)
  refine wpAny_Slice (thn (po_none.run pins s1 σ H1 (fun o H2 => o = none ∧ H2 = H1) I1 ⟨rfl, rfl⟩) fun vl s2 ⟨l, H2, I2, pl, el, e2⟩ => ?_)
  subst el e2
  refine thn (po_none.run pins s2 σ H2 (fun o H3 => o = none ∧ H3 = H2) I2 ⟨rfl, rfl⟩) fun vu s3 ⟨u, H3, I3, pu, eu, e3⟩ => ?_
  subst eu e3
  refine thn (hst.run pins s3 σ H3 (fun o H4 => o = some (-1) ∧ H4 = H3) I3 ⟨1, rfl, -1, rfl, rfl, rfl⟩) fun vs s4 ⟨o, H4, I4, ps, eo, e4⟩ => ?_
  subst eo e4
  have I5 : Inv X pins σ H4 { s4 with heap := s4.heap.push { cls := .type "slice", data := .fields #[vl, vu, vs] } } := I4.kept (t' := s4.toks) fun b ob q => Heap.get?_push_of_some _ q
  show wpAny (model X.prog X.w) X.A (subscriptTail e (.Slice none none (some (.UnaryOp .USub (.Constant (.int 1) k p1) p2)) p3) (.str z t) (.ref s4.heap.objs.size)) (EP X pins σ Q) X.xe { s4 with heap := s4.heap.push { cls := .type "slice", data := .fields #[vl, vu, vs] } }
  refine tail_any (ops := [.str z t, .ref s4.heap.objs.size]) (typeIs_str _ _ _) (PySem.F.slot_str_getitem.lookup) ?_ (by with_unfolding_all rfl)
  cases pl
  cases pu
  cases ps with
  | int _ t' =>
    refine wpAny_getItem_str_slice (l := none) (u := none) (st := some (-1, t')) ⟨_, Heap.get?_push_size _ rfl, rfl, rfl⟩ rfl ?_
    have e : sliceMade z t none none (some (-1, t')) = Made.str (revS z) := by
      unfold sliceMade slicePicked
      rw [if_neg (by intro q; exact absurd (Bool.and_eq_true_iff.mp q).1 (by show ¬ ((-1 : Int) == 1) = true; decide))]
      show Made.str ⟨((Builtin.Str.strSliceIndices none none (-1) z.length).filterMap (z.cps[·]?)).toArray⟩ = _
      rw [indices_rev, List.filterMap_reverse]
      unfold revS
      rw [← all_cps z.cps]
      rfl
    rw [e]
    exact ⟨by rw [revS_len]; exact hz, .str _, H4, I5.tok _, ⟨_, rfl⟩, q⟩
end
end Bx
namespace Bx
open PySem PySem.Spec PyProof.Rows L2
/-! ### statements with a text's replace: a token is out -/
section
variable {X : Cx}
/-- if e op 0: .. (behind the number a token is out) -/
theorem ps_ifT {op : CmpOp} {r : R2} {a : Expr} {ta : TE} {i : Int} {j : Nat} {pc cpos pos : Pos} {sts els : List Stmt} {t u : TS} (ho : OpR X (compareOp op) r) (ha : PE X a ta) (hm : behindInMarks op (.Constant (.int i) j pc) = false) (hs : PSsT X sts t) (he : PSsT X els u) :
    PS X (.If (.Compare a [op] [.Constant (.int i) j pc] cpos) sts els pos) (tIfS (tTest (tOp r ta (tC (.int i)))) t u) := by
  refine ⟨fun pins s σ H D I h => ?_⟩
  refine wpAny_If (wpAny_isTrue_Compare1 (thn (ha.run pins s σ H _ I h) fun v s1 ⟨x, H1, I1, r1, q1⟩ => wpAny_Constant_int ?_) hm)
  refine wpAny_mono (PySem.wpAny_toks (ho pins { s1 with toks := s1.toks + 1 } σ H1 x (.int i) v (.int i s1.toks) _ (I1.tok _) r1 ⟨_, rfl⟩ q1)) (fun c s3 q => ?_) fun _ _ z => z.2
  obtain ⟨hk, z, H3, I3, r3, k, e, q3⟩ := q
  subst e
  cases r3
  refine wpAny_truthy_bool ?_
  have h1 : 1 ≤ s3.toks := Nat.le_trans (Nat.le_add_left 1 s1.toks) hk
  cases k with
  | true => exact hs pins s3 σ H3 D h1 I3 q3
  | false => exact he pins s3 σ H3 D h1 I3 q3
theorem pst_set {i : Nat} {x : Str} {e : Expr} {te : TE} {pos pos' : Pos} (hN : X.N.Nodup) (hi : X.N[i]? = some x) (hx : Loc X.env.scope x) (he : PET X e te) (hs : swapsWith e (some (.Name x pos')) pos.line X.env = pure false := by rfl) (hf : X.fn x = true ∨ X.env.scope.names.lookup x = some .local := by first | exact .inl rfl | exact .inr rfl | assumption) :
    PST X (.Assign [.Name x pos'] e pos) (tAsg te (gName i)) := by
  intro pins s σ H D h0 I h
  refine wpAny_Assign_Name (thn (he pins s σ H _ h0 I h) fun v s1 ⟨y, H1, I1, r1, q1⟩ => ?_) hs
  exact store_ok I1 hN hi hx r1 (fun s2 I2 => ⟨_, H1, I2, q1⟩) hf
theorem pet_G {CX : CXT} {k : Nat} {ps : List Str} {sp : Sp} {E : XK} {x : Str} {p pos : Pos} {e : Expr} {es : List Expr} {t : TA} (F : Good X.prog X.w X.K X.mg X.base CX k x ps sp) (hr : Room k X.A) (hg : Gl X x) (hx : Passes CX X E) (ha : PAT X (e :: es) t)
    (hdb : (x == ("__debug__" : Str)) = false := by decide) (he : starEach (e :: es) X.env = (false, eval e X.env) :: starEach es X.env := by rfl) (hpl : (backTo pos (starEach es X.env)).any (·.1) = false := by rfl) :
    PET X (.Call (.Name x p) (e :: es) [] pos) (tCall sp [] E t) := by
  obtain ⟨fd, F, b, kp, m⟩ := F
  intro pins s σ H Q h0 I h
  refine wpAny_Call_Name_kw (ld_glob I hg m ?_ hdb)
  refine PySem.W.callWith_K (h₀ := X.base) I.ok.mod.kin kp (thn (ha pos pins s σ H _ h0 I h) fun us s1 ⟨vs, H1, I1, r, q⟩ => ⟨I1.kIn, ?_⟩) he hpl
  exact run_fn F hr b .nil hx I1 r q
theorem pat_one {e : Expr} {es : List Expr} {te : TE} {ta : TA} (ha : PE X e te) (hr : PAT X es ta) (hs : starEach (e :: es) X.env = (false, eval e X.env) :: starEach es X.env := by rfl) : PAT X (e :: es) (tCons te ta) := pat_cons (fun pins s σ H Q _ I q => ha.run pins s σ H Q I q) hr hs
end
end Bx
-- needs bfs ways ruleS
namespace Bx
open PySem PySem.Spec PyProof.Rows L2
/-- one more letter at the end of runs -/
def addR : List (Bool × Nat) → Bool → List (Bool × Nat)
  | [], c => [(c, 1)]
  | [r], c => if r.1 = c then [(r.1, r.2 + 1)] else [r, (c, 1)]
  | r :: q :: l, c => r :: addR (q :: l) c
theorem addR_cons {r q : Bool × Nat} {l : List (Bool × Nat)} (c : Bool) : addR (r :: q :: l) c = r :: addR (q :: l) c := rfl
theorem addR_snoc {r : Bool × Nat} (c : Bool) : ∀ l : List (Bool × Nat), addR (l ++ [r]) c = l ++ (if r.1 = c then [(r.1, r.2 + 1)] else [r, (c, 1)])
  | [] => rfl
  | [q] => rfl
  | q :: p :: l => by
    rw [List.cons_append, List.cons_append, addR_cons, ← List.cons_append, addR_snoc c (p :: l)]
    rfl
theorem addR_ne (rs : List (Bool × Nat)) (c : Bool) : ∃ q l, addR rs c = q :: l := by
  match rs with
  | [] => exact ⟨_, _, rfl⟩
  | [r] =>
    unfold addR
    split
    · exact ⟨_, _, rfl⟩
    · exact ⟨_, _, rfl⟩
  | r :: q :: l => exact ⟨_, _, rfl⟩
theorem push_add (rs : List (Bool × Nat)) (b c : Bool) : pushR (addR rs c) b = addR (pushR rs b) c := by
  match rs with
  | [] => cases b <;> cases c <;> rfl
  | [r] =>
    obtain ⟨d, n⟩ := r
    cases b <;> cases c <;> cases d <;> rfl
  | r :: q :: l =>
    rw [addR_cons]
    obtain ⟨q', l', e⟩ := addR_ne (q :: l) c
    rw [e]
    unfold pushR
    dsimp only
    split
    · rw [addR_cons, e]
    · rw [addR_cons, addR_cons, e]
theorem fold_push : ∀ (w : List Bool) (rs : List (Bool × Nat)) (c : Bool), w.foldl pushR (addR rs c) = addR (w.foldl pushR rs) c
  | [], _, _ => rfl
  | b :: w, rs, c => by
    rw [List.foldl_cons, List.foldl_cons, push_add, fold_push w]
theorem enc_rev : ∀ w : List Bool, w.reverse.foldl addR [] = encW w
  | [] => rfl
  | c :: w => by
    rw [List.reverse_cons, List.foldl_append, enc_rev w]
    show addR (encW w) c = w.foldl pushR (pushR [] c)
    exact (fold_push w [] c).symm
theorem addR_len (rs : List (Bool × Nat)) (c : Bool) : (addR rs c).length ≤ rs.length + 1 := by
  match rs with
  | [] => exact Nat.le_refl _
  | [r] =>
    unfold addR
    split <;> simp
  | r :: q :: l =>
    rw [addR_cons, List.length_cons, List.length_cons]
    exact Nat.succ_le_succ (addR_len (q :: l) c)
theorem fold_addR_len : ∀ (w : List Bool) (rs : List (Bool × Nat)), (w.foldl addR rs).length ≤ rs.length + w.length
  | [], _ => Nat.le_refl _
  | c :: w, rs => by
    rw [List.foldl_cons, List.length_cons]
    have := fold_addR_len w (addR rs c)
    have := addR_len rs c
    omega
theorem addR_cnt {n : Nat} : ∀ (rs : List (Bool × Nat)) (c : Bool), (∀ r ∈ rs, r.2 ≤ n) → ∀ r ∈ addR rs c, r.2 ≤ n + 1
  | [], c, h, r, hr => by
    rw [List.mem_singleton.mp hr]
    exact Nat.succ_le_succ (Nat.zero_le n)
  | [q], c, h, r, hr => by
    have hq := h q (List.mem_cons_self ..)
    unfold addR at hr
    split at hr
    · rw [List.mem_singleton.mp hr]
      exact Nat.succ_le_succ hq
    · rcases List.mem_cons.mp hr with z | z
      · rw [z]; omega
      · rw [List.mem_singleton.mp z]
        exact Nat.succ_le_succ (Nat.zero_le n)
  | p :: q :: l, c, h, r, hr => by
    rw [addR_cons] at hr
    rcases List.mem_cons.mp hr with z | z
    · rw [z]
      exact Nat.le_succ_of_le (h p (List.mem_cons_self ..))
    · exact addR_cnt (q :: l) c (fun r hr => h r (List.mem_cons_of_mem _ hr)) r z
theorem fold_addR_cnt {n : Nat} : ∀ (w : List Bool) (rs : List (Bool × Nat)), (∀ r ∈ rs, r.2 ≤ n) → ∀ r ∈ w.foldl addR rs, r.2 ≤ n + w.length
  | [], _, h => h
  | c :: w, rs, h => fun r hr => by
    rw [List.foldl_cons] at hr
    have := fold_addR_cnt w (addR rs c) (addR_cnt rs c h) r hr
    rw [List.length_cons]
    omega
theorem encW_len (w : List Bool) : (encW w).length ≤ w.length := by
  rw [← enc_rev]
  have := fold_addR_len w.reverse []
  rw [List.length_reverse] at this
  simpa using this
theorem encW_cnt (w : List Bool) : ∀ r ∈ encW w, r.2 ≤ w.length := fun r hr => by
  rw [← enc_rev] at hr
  have := fold_addR_cnt (n := 0) w.reverse [] (fun r hr => by cases hr) r hr
  rw [List.length_reverse] at this
  omega
theorem last_split' {α : Type} {f : List α} {l : α} (h : f.getLast? = some l) : f = f.dropLast ++ [l] := by
  obtain ⟨z, hz⟩ := List.getLast?_eq_some_iff.mp h
  rw [hz, List.dropLast_concat]
theorem wordS_rev (w : List Bool) : revS (wordS w) = wordS w.reverse := by
  unfold revS wordS wordL
  rw [List.map_reverse]
theorem wordS_at {w : List Bool} {i c : Nat} (h : (wordS w).cps[i]? = some c) : ∃ b, w[i]? = some b ∧ V.str ⟨#[c]⟩ = V.str (letS b) := by
  have h' : (wordL w)[i]? = some c := by simpa [wordS] using h
  unfold wordL at h'
  rw [List.getElem?_map] at h'
  obtain ⟨b, hb, rfl⟩ := Option.map_eq_some_iff.mp h'
  exact ⟨b, hb, by cases b <;> rfl⟩
theorem wordS_size (w : List Bool) : (wordS w).cps.size = w.length := by
  unfold wordS wordL
  simp
end Bx
-- needs tables deepI
/-! a set of pairs in the heap -/
namespace Bx
open PySem PySem.Spec PyProof.Rows L2
/-- a set: an instance that holds a table -/
structure SetAt (K : PySem.W.Frag) (H : Hp) (a : Addr) (t : Tb) : Prop where
  ex : ∃ dx p, H a = some (.ins (He.ga K "PairSet") dx [("parts", .ref p)]) ∧ H dx = some (.own a) ∧ Dp K H (.ref p) (tabD t)
theorem SetAt.sameT {K : PySem.W.Frag} {H H' : Hp} {a : Addr} {t : Tb} (e : SameT H H') (h : SetAt K H a t) : SetAt K H' a t := by
  obtain ⟨dx, p, h1, h2, h3⟩ := h.ex
  exact ⟨dx, p, e _ _ h1 (fun _ z => by cases z), e _ _ h2 (fun _ z => by cases z), Dp.sameT e (noL_tab t) h3⟩
/-- a new set -/
theorem SetAt.made {K : PySem.W.Frag} {H H' : Hp} {x dx p : Addr} {t : Tb} (hx : H x = none) (hdx : H dx = none) (hn : dx ≠ x) (e : Same (upd (upd H dx (.own x)) x (.ins (He.ga K "PairSet") dx [])) H') (hp : Dp K H' (.ref p) (tabD t)) :
    Same H (upd H' x (.ins (He.ga K "PairSet") dx [("parts", .ref p)])) ∧ SetAt K (upd H' x (.ins (He.ga K "PairSet") dx [("parts", .ref p)])) x t := by
  have e1 : Same H (upd (upd H dx (.own x)) x (.ins (He.ga K "PairSet") dx [])) := (same_new hdx).trans (same_new (by rw [upd_ne hn.symm]; exact hx))
  have hx' : H' x = some (.ins (He.ga K "PairSet") dx []) := e _ _ upd_same
  refine ⟨same_mut (e1.trans e) hx, ⟨dx, p, upd_same, ?_, Dp.sameI (SameI.put hx') hp⟩⟩
  rw [upd_ne hn]
  exact e _ _ (by rw [upd_ne hn, upd_same])
end Bx
-- needs tables
namespace Bx
open PySem PySem.Spec PyProof.Rows L2
def allT : Tb := ⟨1, [true], [true], [0], [(0, 0, true)]⟩
theorem allT_ok : Tok allT := ⟨.inl rfl, rfl, rfl, rfl, by decide, by decide, by decide, by decide, by decide⟩
theorem allT_goN (l : Bool) : ∀ n, goN allT l n 0 = 0
  | 0 => rfl
  | n + 1 => by
    show goN allT l n (goT allT 0 l) = 0
    rw [show goT allT 0 l = 0 by cases l <;> rfl]
    exact allT_goN l n
theorem allT_fold : ∀ l : List (Bool × Nat), l.foldl (fun s r => goN allT r.1 r.2 s) 0 = 0
  | [] => rfl
  | r :: l => by
    rw [List.foldl_cons, allT_goN]
    exact allT_fold l
theorem allT_has (x y : Nat) : hasT allT x y = true := by
  have g : ∀ n, begT allT n = 0 := fun n => by
    unfold begT allT
    show ([0][n % 1]?).getD 0 = 0
    rw [Nat.mod_one]
    rfl
  unfold hasT
  by_cases hy : y = 0
  · rw [if_pos hy]
    show ([true][_ % 1]?).getD false = true
    rw [Nat.mod_one]
    rfl
  · rw [if_neg hy]
    by_cases hx : x = 0
    · rw [if_pos hx]
      show ([true][_ % 1]?).getD false = true
      rw [Nat.mod_one]
      rfl
    · rw [if_neg hx, g, allT_fold]
      rfl
end Bx
-- needs tables
namespace Bx
open PySem PySem.Spec PyProof.Rows L2
def noT : Tb := ⟨1, [false], [false], [0], [(0, 0, false)]⟩
theorem noT_ok : Tok noT := ⟨.inl rfl, rfl, rfl, rfl, by decide, by decide, by decide, by decide, by decide⟩
theorem noT_goN (l : Bool) : ∀ n, goN noT l n 0 = 0
  | 0 => rfl
  | n + 1 => by
    show goN noT l n (goT noT 0 l) = 0
    rw [show goT noT 0 l = 0 by cases l <;> rfl]
    exact noT_goN l n
theorem noT_fold : ∀ l : List (Bool × Nat), l.foldl (fun s r => goN noT r.1 r.2 s) 0 = 0
  | [] => rfl
  | r :: l => by
    rw [List.foldl_cons, noT_goN]
    exact noT_fold l
theorem noT_has (x y : Nat) : hasT noT x y = false := by
  have g : ∀ n, begT noT n = 0 := fun n => by
    unfold begT noT
    show ([0][n % 1]?).getD 0 = 0
    rw [Nat.mod_one]
    rfl
  unfold hasT
  by_cases hy : y = 0
  · rw [if_pos hy]
    show ([false][_ % 1]?).getD false = false
    rw [Nat.mod_one]
    rfl
  · rw [if_neg hy]
    by_cases hx : x = 0
    · rw [if_pos hx]
      show ([false][_ % 1]?).getD false = false
      rw [Nat.mod_one]
      rfl
    · rw [if_neg hx, g, noT_fold]
      rfl
end Bx
-- needs canon prod setat allT noT
/-! sets by what they hold -/
namespace Bx
open PySem PySem.Spec PyProof.Rows L2
def Can (t : Tb) : Prop := ∃ u f s, Tok u ∧ Cls u f ∧ Sz u f s ∧ t = leastF u f s
theorem Can.eq_iff {t1 t2 : Tb} (h1 : Can t1) (h2 : Can t2) : t1 = t2 ↔ ∀ x y, hasT t1 x y = hasT t2 x y := by
  obtain ⟨u1, f1, s1, a1, b1, c1, rfl⟩ := h1
  obtain ⟨u2, f2, s2, a2, b2, c2, rfl⟩ := h2
  constructor
  · intro e x y
    rw [e]
  · intro h
    refine leastF_canon a1 a2 b1 b2 c1 c2 fun x y _ => ?_
    have := h x y
    rw [leastF_has a1 b1 c1, leastF_has a2 b2 c2] at this
    exact this
structure SetS (K : PySem.W.Frag) (H : Hp) (p : Addr) (F : Nat → Nat → Bool) (N : Nat) : Prop where
  ex : ∃ t, SetAt K H p t ∧ Tok t ∧ Can t ∧ (∀ x y, hasT t x y = F x y) ∧ t.rows.length ≤ N
theorem SetS.same {K : PySem.W.Frag} {H H' : Hp} {p : Addr} {F : Nat → Nat → Bool} {N : Nat} (e : Same H H') (h : SetS K H p F N) : SetS K H' p F N := by
  obtain ⟨t, h1, h2⟩ := h.ex
  exact ⟨t, h1.sameT (.of e), h2⟩
theorem SetS.sameT {K : PySem.W.Frag} {H H' : Hp} {p : Addr} {F : Nat → Nat → Bool} {N : Nat} (e : SameT H H') (h : SetS K H p F N) : SetS K H' p F N := by
  obtain ⟨t, h1, h2⟩ := h.ex
  exact ⟨t, h1.sameT e, h2⟩
theorem SetS.least {K : PySem.W.Frag} {H : Hp} {p : Addr} {t : Tb} {f : Nat → Nat} {s N : Nat} {F : Nat → Nat → Bool} (h : SetAt K H p (leastF t f s)) (ok : Tok t) (cl : Cls t f) (hs : Sz t f s) (hF : ∀ x y, hasT t x y = F x y) (hN : t.rows.length ≤ N) : SetS K H p F N :=
  ⟨_, h, leastF_ok ok cl hs, ⟨t, f, s, ok, cl, hs, rfl⟩, fun x y => (leastF_has ok cl hs x y).trans (hF x y), Nat.le_trans (leastF_rows ok cl) hN⟩
/-- no pair at all -/
def emptyT (t : Tb) : Bool := !(t.flats.any id) && (!(t.steeps.any id) && !((t.rows.map fun r => r.2.2).any id))
theorem emptyT_iff {t : Tb} (ok : Tok t) (hc : Can t) : emptyT t = true ↔ ∀ x y, hasT t x y = false := by
  constructor
  · intro h x y
    unfold emptyT at h
    rw [Bool.and_eq_true, Bool.and_eq_true] at h
    obtain ⟨h1, h2, h3⟩ := h
    have f1 : ∀ b ∈ t.flats, b = false := fun b hb => by
      cases b with
      | false => rfl
      | true => rw [List.any_eq_true.mpr ⟨true, hb, rfl⟩] at h1; cases h1
    have f2 : ∀ b ∈ t.steeps, b = false := fun b hb => by
      cases b with
      | false => rfl
      | true => rw [List.any_eq_true.mpr ⟨true, hb, rfl⟩] at h2; cases h2
    have f3 : ∀ s, goodT t s = false := fun s => by
      unfold goodT
      cases e : t.rows[s]? with
      | none => rfl
      | some r =>
        show r.2.2 = false
        cases q : r.2.2 with
        | false => rfl
        | true =>
          have : ((t.rows.map fun r => r.2.2).any id) = true := List.any_eq_true.mpr ⟨true, List.mem_map.mpr ⟨r, List.mem_of_getElem? e, q⟩, rfl⟩
          rw [this] at h3
          cases h3
    have g : ∀ (l : List Bool) (i : Nat), (∀ b ∈ l, b = false) → (l[i]?).getD false = false := fun l i hl => by
      cases e : l[i]? with
      | none => rfl
      | some b => exact hl b (List.mem_of_getElem? e)
    unfold hasT
    split
    · exact g _ _ f1
    · split
      · exact g _ _ f2
      · exact f3 _
  · intro h
    obtain ⟨u, f, s, a1, a2, a3, rfl⟩ := hc
    have hn : ∀ x y, ¬ (x = 0 ∧ y = 0) → hasT u x y = hasT noT x y := fun x y _ => by
      rw [noT_has, ← leastF_has a1 a2 a3]
      exact h x y
    -- the classes and the size of the empty table
    have cN : Cls noT (fun _ => 0) := by
      refine ⟨fun i j hi hj => ⟨fun _ w => ?_, fun _ => rfl⟩, fun i hi => ?_⟩
      · have g0 : ∀ s, goodT noT s = false := fun s => by
          unfold goodT noT
          cases s <;> rfl
        rw [g0, g0]
      · have : i = 0 := by
          have : i < 1 := hi
          omega
        subst this
        decide
    have sN : Sz noT (fun _ => 0) 1 := by
      refine ⟨by decide, ⟨by decide, ?_, ?_, ?_⟩, fun s' hs' hl => ?_⟩
      · intro i hi
        rw [Nat.mod_one]
        have : i < 1 := hi
        rw [show i = 0 by omega]
      · intro i hi
        rw [Nat.mod_one]
        have : i < 1 := hi
        rw [show i = 0 by omega]
      · intro i hi
        rw [Nat.mod_one]
        have : i < 1 := hi
        rw [show i = 0 by omega]
      · have := (mods_pos hs').1
        omega
    rw [leastF_canon a1 noT_ok a2 cN a3 sN hn]
    decide
end Bx
-- needs bfs rle sem
namespace Bx
open PySem PySem.Spec PyProof.Rows L2
def baseP (b g : Nat) : Nat × Nat := if b = 0 then (g, g) else if b = 1 then (g, 0) else (0, g)
theorem hasT_base (t : Tb) {b g : Nat} (hg : 1 ≤ g) : hasT t (baseP b g).1 (baseP b g).2 =
    (if (baseP b g).2 = 0 then (t.flats[g % t.m]?).getD false else if (baseP b g).1 = 0 then (t.steeps[g % t.m]?).getD false else goodT t (begT t g)) := by
  unfold baseP
  by_cases h0 : b = 0
  · rw [if_pos h0]
    unfold hasT
    dsimp only
    rw [if_neg (by omega), if_neg (by omega), if_neg (by omega), if_neg (by omega), Nat.gcd_self, R_nil (by omega)]
    rfl
  · rw [if_neg h0]
    by_cases h1 : b = 1
    · rw [if_pos h1]
      unfold hasT
      dsimp only
      rw [if_pos rfl, if_pos rfl, Nat.gcd_zero_right]
    · rw [if_neg h1]
      unfold hasT
      dsimp only
      rw [if_neg (by omega), if_pos rfl, if_neg (by omega), if_pos rfl, Nat.gcd_zero_left]
/-- no bottom is in the set -/
def NoBase (t : Tb) : Prop := ∀ b g, b < 3 → Rng t g → hasT t (baseP b g).1 (baseP b g).2 = false
/-- (x, y) is the set's first pair -/
def FirstAt (t : Tb) (x y : Nat) : Prop :=
  (∃ b g, b < 3 ∧ Rng t g ∧ (x, y) = baseP b g ∧ hasT t x y = true ∧ ∀ b' g', b' < 3 → Rng t g' → hasT t (baseP b' g').1 (baseP b' g').2 = true → 7 * b + g ≤ 7 * b' + g') ∨
  (NoBase t ∧ ∃ w g, Rng t g ∧ (x, y) = buildP g (encW w) ∧ goodT t (spW t w g) = true ∧ ∀ w' g', Rng t g' → goodT t (spW t w' g') = true → Kn w g ≤ Kn w' g')
def NoneAt (t : Tb) : Prop := NoBase t ∧ ∀ w g, Rng t g → goodT t (spW t w g) = false
theorem rng_of {t : Tb} (ok : Tok t) (g : Nat) : ∃ g', Rng t g' ∧ g' % t.m = g % t.m := by
  have m0 := ok.m0
  have hlt := Nat.mod_lt g m0.1
  by_cases h : g % t.m = 0
  · exact ⟨t.m, ⟨m0.1, Nat.le_refl _⟩, by rw [Nat.mod_self, h]⟩
  · exact ⟨g % t.m, ⟨by omega, by omega⟩, Nat.mod_mod _ _⟩
theorem goN_word (t : Tb) (b : Bool) : ∀ (n s : Nat), goN t b n s = goW t (List.replicate n b) s
  | 0, _ => rfl
  | n + 1, s => by
    show goN t b n (goT t s b) = goW t (List.replicate n b) (goT t s b)
    exact goN_word t b n _
theorem fold_word (t : Tb) : ∀ (l : List (Bool × Nat)) (s : Nat), ∃ w, l.foldl (fun s r => goN t r.1 r.2 s) s = goW t w s
  | [], s => ⟨[], rfl⟩
  | r :: l, s => by
    obtain ⟨w, h⟩ := fold_word t l (goN t r.1 r.2 s)
    refine ⟨List.replicate r.2 r.1 ++ w, ?_⟩
    rw [List.foldl_cons, h, goN_word]
    unfold goW
    rw [List.foldl_append]
theorem NoneAt.has {t : Tb} (ok : Tok t) (h : NoneAt t) (x y : Nat) : hasT t x y = false := by
  obtain ⟨h1, h2⟩ := h
  obtain ⟨g', r, e⟩ := rng_of ok (Nat.gcd x y)
  have r1 := r.a
  unfold hasT
  by_cases hy : y = 0
  · rw [if_pos hy, ← e]
    have := h1 1 g' (by decide) r
    rw [hasT_base t r1] at this
    exact this
  · rw [if_neg hy]
    by_cases hx : x = 0
    · rw [if_pos hx, ← e]
      have := h1 2 g' (by decide) r
      rw [hasT_base t r1] at this
      rw [show baseP 2 g' = (0, g') from rfl] at this
      dsimp only at this
      rw [if_neg (by omega), if_pos rfl] at this
      exact this
    · rw [if_neg hx]
      obtain ⟨w, hw⟩ := fold_word t (R x y).reverse (begT t (Nat.gcd x y))
      rw [hw]
      have := h2 w g' r
      unfold spW at this
      rw [show begT t (Nat.gcd x y) = begT t g' by unfold begT; rw [e]]
      exact this
theorem FirstAt.has {t : Tb} {x y : Nat} (h : FirstAt t x y) : hasT t x y = true ∧ ¬ (x = 0 ∧ y = 0) := by
  rcases h with ⟨b, g, hb, r, e, q, _⟩ | ⟨_, w, g, r, e, q, _⟩
  · refine ⟨q, ?_⟩
    have r1 := r.a
    unfold baseP at e
    split at e
    · cases e; omega
    · split at e
      · cases e; omega
      · cases e; omega
  · have a := hasT_word (t := t) r.a w
    have b := buildP_ok r.a (encW_alt w)
    rw [← e] at a b
    refine ⟨by rw [a]; exact q, ?_⟩
    have := b.1
    dsimp only at this
    omega
/-! bounds -/
def cntR (rs : List (Bool × Nat)) : Nat := (rs.map (·.2)).sum
theorem cntR_cons (r : Bool × Nat) (l : List (Bool × Nat)) : cntR (r :: l) = r.2 + cntR l := by
  unfold cntR
  rw [List.map_cons, List.sum_cons]
theorem pushR_sum (rs : List (Bool × Nat)) (b : Bool) : cntR (pushR rs b) = cntR rs + 1 := by
  unfold pushR
  cases rs with
  | nil => rfl
  | cons r l =>
    dsimp only
    split
    · rw [cntR_cons, cntR_cons]
      dsimp only
      omega
    · rw [cntR_cons]
      dsimp only
      omega
theorem encW_sum (w : List Bool) : cntR (encW w) = w.length := by
  have : ∀ (w : List Bool) (rs : List (Bool × Nat)), cntR (w.foldl pushR rs) = cntR rs + w.length := by
    intro w
    induction w with
    | nil => intro rs; rfl
    | cons c w ih =>
      intro rs
      rw [List.foldl_cons, ih, pushR_sum, List.length_cons]
      omega
  refine (this w []).trans ?_
  show 0 + w.length = w.length
  omega
theorem cntR_drop (rs : List (Bool × Nat)) : ∀ i, cntR (rs.drop i) ≤ cntR rs := by
  induction rs with
  | nil => intro i; rw [List.drop_nil]; exact Nat.le_refl _
  | cons r l ih =>
    intro i
    cases i with
    | zero => exact Nat.le_refl _
    | succ i =>
      rw [List.drop_succ_cons, cntR_cons]
      have := ih i
      omega
theorem two_le (n : Nat) : n + 1 ≤ 2 ^ n := Nat.lt_two_pow_self
theorem buildP_two (g : Nat) : ∀ rs : List (Bool × Nat), (buildP g rs).1 ≤ g * 2 ^ cntR rs ∧ (buildP g rs).2 ≤ g * 2 ^ cntR rs
  | [] => by
    show g ≤ g * 2 ^ 0 ∧ g ≤ g * 2 ^ 0
    omega
  | r :: l => by
    obtain ⟨h1, h2⟩ := buildP_two g l
    rw [cntR_cons, Nat.add_comm, Nat.pow_add, ← Nat.mul_assoc]
    have k := two_le r.2
    have m1 : (r.2 + 1) * (g * 2 ^ cntR l) ≤ g * 2 ^ cntR l * 2 ^ r.2 := by
      rw [Nat.mul_comm]
      exact Nat.mul_le_mul_left _ k
    rw [Nat.add_mul, Nat.one_mul] at m1
    have m2 : r.2 * (buildP g l).2 ≤ r.2 * (g * 2 ^ cntR l) := Nat.mul_le_mul_left _ h2
    have m3 : r.2 * (buildP g l).1 ≤ r.2 * (g * 2 ^ cntR l) := Nat.mul_le_mul_left _ h1
    unfold buildP
    split <;> constructor <;> dsimp only <;> omega
theorem buildP_enc {g : Nat} (h6 : g ≤ 6) {w : List Bool} (hw : w.length ≤ 3000) (i : Nat) : (buildP g ((encW w).drop i)).1 < 2 ^ 4000 ∧ (buildP g ((encW w).drop i)).2 < 2 ^ 4000 := by
  have h := buildP_two g ((encW w).drop i)
  have s := cntR_drop (encW w) i
  rw [encW_sum] at s
  have p : g * 2 ^ cntR ((encW w).drop i) < 2 ^ 4000 := by
    have e : (2 : Nat) ^ 4000 = 2 ^ 1000 * 2 ^ 3000 := (Nat.pow_add 2 1000 3000)
    rw [e]
    have a : 2 ^ cntR ((encW w).drop i) ≤ 2 ^ 3000 := Nat.pow_le_pow_right (by decide) (by omega)
    have b : (7 : Nat) ≤ 2 ^ 1000 := Nat.le_trans (by decide : (7 : Nat) ≤ 2 ^ 3) (Nat.pow_le_pow_right (by decide) (by decide))
    have c : 0 < 2 ^ 3000 := Nat.two_pow_pos _
    have d : g * 2 ^ cntR ((encW w).drop i) ≤ 6 * 2 ^ 3000 := Nat.mul_le_mul h6 a
    have f : 7 * 2 ^ 3000 ≤ 2 ^ 1000 * 2 ^ 3000 := Nat.mul_le_mul_right _ b
    generalize (2 : Nat) ^ 3000 = Z at *
    generalize (2 : Nat) ^ 1000 * Z = Y at *
    omega
  exact ⟨Nat.lt_of_le_of_lt h.1 p, Nat.lt_of_le_of_lt h.2 p⟩
end Bx
-- needs dcit numb least
namespace Bx
open PySem PySem.Spec PyProof.Rows L2
/-- the dict tells each number's place -/
structure ToldN (kvs : List (Key × V)) (acc : List Nat) : Prop where
  len : kvs.length = acc.length
  val : ∀ c : Nat, valV kvs (ki c) = if c ∈ acc then some (.int ((idxK acc c : Nat) : Int)) else none
theorem ToldN.nil : ToldN ([] : List (Key × V)) [] := ⟨rfl, fun k => by rw [if_neg (List.not_mem_nil)]; rfl⟩
theorem ToldN.push {kvs : List (Key × V)} {acc : List Nat} {k : Nat} (h : ToldN kvs acc) (hk : k ∉ acc) : ToldN (putK kvs (ki k) (.int ((kvs.length : Nat) : Int))) (acc ++ [k]) := by
  have e : valV kvs (ki k) = none := by rw [h.val, if_neg hk]
  refine ⟨?_, fun j => ?_⟩
  · rw [putK_new _ e, List.length_append, List.length_append, h.len]
    rfl
  · rw [valV_put, h.val]
    unfold idxK
    by_cases c : j = k
    · subst c
      rw [if_pos rfl, if_pos (List.mem_append_right _ (List.mem_singleton.mpr rfl)), List.idxOf_append, if_neg hk, h.len]
      have : List.idxOf j [j] = 0 := by simp
      rw [this, Nat.zero_add]
    · rw [if_neg (fun z => c (ki_inj.mp z))]
      by_cases m : j ∈ acc
      · rw [if_pos m, if_pos (List.mem_append_left _ m), List.idxOf_append, if_pos m]
      · rw [if_neg m, if_neg (fun z => by rcases List.mem_append.mp z with z | z; exact m z; exact c (List.mem_singleton.mp z))]
/-- the first spots, read from the end -/
def spotV (f : Nat → Nat) (l : List Nat) (c : Nat) : Option V := (l.find? fun p => decide (f p = c)).map fun p : Nat => V.int (p : Int)
theorem spotV_cons {f : Nat → Nat} {p c : Nat} {l : List Nat} : spotV f (p :: l) c = if c = f p then some (.int (p : Int)) else spotV f l c := by
  unfold spotV
  rw [List.find?_cons]
  by_cases h : f p = c
  · rw [decide_eq_true h, if_pos h.symm]
    rfl
  · rw [decide_eq_false h, if_neg fun z => h z.symm]
theorem spotV_sp {f : Nat → Nat} {N c : Nat} (h : ∃ i, i < N ∧ f i = c) : spotV f (List.range N) c = some (.int ((spF f N c : Nat) : Int)) := by
  obtain ⟨i, hi, e⟩ := h
  unfold spotV spF
  cases q : (List.range N).find? fun p => decide (f p = c) with
  | none =>
    have := List.find?_eq_none.mp q i (List.mem_range.mpr hi)
    exact absurd (decide_eq_true e) this
  | some p => rfl
end Bx
-- needs lists
-- imports KE.SortData HandS.SortRule
namespace Bx
open PySem PySem.Spec PyProof.Rows L2
section
variable {X : Cx}
/-- sorted(xs), xs a list of alike data that bs tell: a new list of the same values, in order -/
def rSortedD (K : PySem.W.Frag) : List V → Hp → VK → Prop := fun vs H Q => ∃ (β : Type) (enc : β → PyData) (a : Addr) (xs : List V) (bs : List β), vs = [V.ref a] ∧ SqL K H a xs ∧ DpAll K H xs (bs.map enc) ∧
  PySem.W.AllAlike (bs.map enc) ∧ PySem.W.Sortable (bs.map enc) ∧ (∀ b ∈ bs, (enc b).depth ≤ 40) ∧
  ∀ ys p, DpAll K H ys ((bs.mergeSort (PySem.W.dataLe false enc)).map enc) → H p = none → Q (.ref p) (upd H p (.lst ys))
theorem each_of {β : Type} {enc : β → PyData} {K : PySem.W.Frag} {H : Hp} : ∀ {bs : List β} {xs : List V} {us : List Value}, DpAll K H xs (bs.map enc) → Vals xs us → PySem.W.EachIs (fun u b => ∃ v, RelV v u ∧ Dp K H v (enc b)) us bs
  | [], _, _, h, r => by
    cases h
    cases r
    exact .nil
  | b :: bs, _, _, h, r => by
    cases h with
    | cons h1 h2 =>
      cases r with
      | cons r1 r2 => exact .cons ⟨_, r1, h1⟩ (each_of h2 r2)
theorem of_each {β : Type} {enc : β → PyData} {K : PySem.W.Frag} {H : Hp} : ∀ {bs : List β} {us : List Value}, PySem.W.EachIs (fun u b => ∃ v, RelV v u ∧ Dp K H v (enc b)) us bs → ∃ ys, Vals ys us ∧ DpAll K H ys (bs.map enc)
  | [], _, h => by
    cases h
    exact ⟨[], .nil, .nil⟩
  | b :: bs, _, h => by
    cases h with
    | cons h1 h2 =>
      obtain ⟨v, r1, d1⟩ := h1
      obtain ⟨ys, r2, d2⟩ := of_each h2
      exact ⟨v :: ys, .cons r1 r2, .cons d1 d2⟩
theorem cr_sortedD (hu : X.A.units + 64 < cLine) : CallR X (.builtin "sorted") (rSortedD X.K) := by
  intro pins s σ H vs us Q I r h
  obtain ⟨β, enc, a, xs, bs, rfl, hs, hd, al, so, dp, q⟩ := h
  obtain ⟨its, rv, hl, hz⟩ := I.list hs
  rw [Vals.ref1 r]
  obtain ⟨as, hr⟩ := Dp.readsAll I (bs.map enc) _ its hd rv
  have e0 := each_of hd rv
  refine PySem.W.sorted_data hl.isList e0 (PySem.W.readsAll_each enc hr) al so ?_ (fun b hb => ?_) fun out h1 h2 => ?_
  · rw [← e0.length, ← rv.length]
    exact hz
  · have := dp b hb
    omega
  · obtain ⟨ys, r1, d1⟩ := of_each h2
    refine ⟨.ref _, upd H (s.heap.objs.size + 1) (.lst ys), I.laid (t' := s.toks) (fun b o e => sortedAll_old e) (Nat.le_succ _) ⟨?_, out, (sortedAll_at s.heap its out.toArray).choose, r1, (sortedAll_at s.heap its out.toArray).choose_spec⟩, rfl, q ys _ d1 (I.hok.fresh (Nat.le_succ _))⟩
    rw [r1.length, h1, ← e0.length, ← rv.length]
    exact hz
end
end Bx
-- needs deep
/-! plain data stays where lists and dicts alone change -/
namespace Bx
open PySem PySem.Spec PyProof.Rows L2
def TupF (H H' : Hp) : Prop := ∀ a o, H a = some o → (∀ ys, o ≠ .lst ys) → (∀ kvs, o ≠ .dK kvs) → (∀ kvs, o ≠ .dT kvs) → H' a = some o
theorem TupF.refl (H : Hp) : TupF H H := fun _ _ h _ _ _ => h
theorem TupF.trans {H H1 H2 : Hp} (x : TupF H H1) (y : TupF H1 H2) : TupF H H2 := fun a o h n1 n2 n3 => y a o (x a o h n1 n2 n3) n1 n2 n3
theorem TupF.of {H H' : Hp} (e : Same H H') : TupF H H' := fun a o h _ _ _ => e a o h
theorem TupF.ofT {H H' : Hp} (e : SameT H H') : TupF H H' := fun a o h n _ _ => e a o h n
theorem TupF.putL {H : Hp} {a : Addr} {xs : List V} {o : HO} (h : H a = some (.lst xs)) : TupF H (L2.upd H a o) := .ofT (.put h)
theorem TupF.putD {H : Hp} {a : Addr} {kvs : List (Key × V)} {o : HO} (h : H a = some (.dK kvs)) : TupF H (L2.upd H a o) := fun b u q _ n _ => by
  have nb : b ≠ a := fun z => by
    rw [z, h] at q
    exact n _ (Option.some.inj q).symm
  rw [upd_ne nb]
  exact q
theorem TupF.putT {H : Hp} {a : Addr} {kvs : List (List Key × V)} {o : HO} (h : H a = some (.dT kvs)) : TupF H (L2.upd H a o) := fun b u q _ _ n => by
  have nb : b ≠ a := fun z => by
    rw [z, h] at q
    exact n _ (Option.some.inj q).symm
  rw [upd_ne nb]
  exact q
theorem TupF.seqT {K : PySem.W.Frag} {H H' : Hp} {a : Addr} {xs : List V} (e : TupF H H') (h : SqT K H a xs) : SqT K H' a xs := by
  rcases h with (h | ⟨o, h⟩) | h
  · exact .inl (.inl (e _ _ h (fun _ z => by cases z) (fun _ z => by cases z) (fun _ z => by cases z)))
  · exact .inl (.inr ⟨o, e _ _ h (fun _ z => by cases z) (fun _ z => by cases z) (fun _ z => by cases z)⟩)
  · exact .inr h
mutual
theorem Dp.tupF {K : PySem.W.Frag} {H H' : Hp} (e : TupF H H') : ∀ {d : PyData} {v : V}, noL d = true → Dp K H v d → Dp K H' v d
  | .none, _, _, h => by cases h; exact .non
  | .bool _, _, _, h => by cases h; exact .bl _
  | .int _, _, _, h => by cases h; exact .int _
  | .str _, _, _, h => by cases h; exact .str _
  | .list _, _, n, _ => by cases n
  | .tuple _, _, n, h => by
    cases h with
    | tup hs ha => exact .tup (e.seqT hs) (Dp.tupFs e (by rw [noL] at n; exact n) ha)
  | .dict _, _, _, h => by cases h
theorem Dp.tupFs {K : PySem.W.Frag} {H H' : Hp} (e : TupF H H') : ∀ {ds : List PyData} {vs : List V}, noLs ds = true → DpAll K H vs ds → DpAll K H' vs ds
  | [], _, _, h => by cases h; exact .nil
  | _ :: _, _, n, h => by
    cases h with
    | cons h1 h2 =>
      rw [noLs, Bool.and_eq_true] at n
      exact .cons (Dp.tupF e n.1 h1) (Dp.tupFs e n.2 h2)
end
theorem none_before {H H' : Hp} {p : Addr} (e : Same H H') (h : H' p = none) : H p = none := by
  cases q : H p with
  | none => rfl
  | some o =>
    rw [e _ _ q] at h
    cases h
end Bx
-- needs firstp toldn rle sortd deepF
namespace Bx
open PySem PySem.Spec PyProof.Rows L2
/-- the dict holds the spots that were met -/
structure SeenD (kvs : List (Key × V)) (acc : List Nat) : Prop where
  len : kvs.length = acc.length
  val : ∀ c : Nat, valV kvs (ki c) = if c ∈ acc then some (.bl true) else none
theorem SeenD.nil : SeenD ([] : List (Key × V)) [] := ⟨rfl, fun k => by rw [if_neg (List.not_mem_nil)]; rfl⟩
theorem SeenD.push {kvs : List (Key × V)} {acc : List Nat} {k : Nat} (h : SeenD kvs acc) (hk : k ∉ acc) : SeenD (putK kvs (ki k) (.bl true)) (k :: acc) := by
  have e : valV kvs (ki k) = none := by rw [h.val, if_neg hk]
  refine ⟨?_, fun j => ?_⟩
  · rw [putK_new _ e, List.length_append, h.len, List.length_cons]
    rfl
  · rw [valV_put, h.val]
    by_cases c : j = k
    · subst c
      rw [if_pos rfl, if_pos (List.mem_cons_self ..)]
    · rw [if_neg (fun z => c (ki_inj.mp z))]
      by_cases m : j ∈ acc
      · rw [if_pos m, if_pos (List.mem_cons_of_mem _ m)]
      · rw [if_neg m, if_neg (fun z => by rcases List.mem_cons.mp z with z | z; exact c z; exact m z)]
theorem strOk_word (w : List Bool) : PyData.strOk (wordS w) = true := by
  unfold wordS
  show (wordL w).toArray.all (fun c => decide (c < 0x110000)) = true
  rw [List.all_toArray, List.all_eq_true]
  intro c hc
  unfold wordL at hc
  obtain ⟨b, _, rfl⟩ := List.mem_map.mp hc
  cases b <;> rfl
theorem canLay_brD (k : Br) : (brD k).canLay0 = true := by
  show (PyData.strOk (wordS k.1) && (true && (true && true))) = true
  rw [strOk_word]
  rfl
theorem depth_brD (k : Br) : (brD k).depth ≤ 2 := by
  show (PyData.tuple _).depth ≤ 2
  simp [PyData.depth, PyData.depthAll]
theorem shaped_brs (l : List Br) : SeqAt.shaped (.list (l.map brD)) = true := by
  unfold SeqAt.shaped
  have h : (PyData.list (l.map brD)).canLay0 = true := by
    rw [PyData.canLay0]
    exact canLay_map canLay_brD l
  have d : (PyData.list (l.map brD)).depth ≤ 3 := by
    have := depthAll_map depth_brD l
    rw [PyData.depth]
    omega
  rw [h, decide_eq_true (by omega)]
  rfl
theorem noL_brD (k : Br) : noL (brD k) = true := rfl
theorem alike_brs (l : List Br) : PySem.W.AllAlike (l.map brD) := .of fun a b => by
  unfold brD
  simp [PySem.W.alike, PySem.W.alikeAll]
theorem sortable_brs (l : List Br) : PySem.W.Sortable (l.map brD) := .tuples fun b => ⟨_, _, rfl⟩
theorem onW_len (t : Tb) (l : List Br) : (onW t l).length = 2 * l.length := by
  unfold onW
  induction l with
  | nil => rfl
  | cons k l ih =>
    rw [List.flatMap_cons, List.length_append, ih, List.length_cons, List.length_cons, List.length_cons, List.length_nil]
    omega
theorem onW_snoc (t : Tb) {l : List Br} {i : Nat} {k : Br} (h : l[i]? = some k) : onW t (l.take (i + 1)) = onW t (l.take i) ++ [(k.1 ++ [true], k.2.1, goT t k.2.2 true), (k.1 ++ [false], k.2.1, goT t k.2.2 false)] := by
  unfold onW
  rw [take_snoc h, List.flatMap_append]
  rfl
/-- a row of the search in the heap -/
theorem Dp.br {K : PySem.W.Frag} {H : Hp} {v : V} {k : Br} (h : Dp K H v (brD k)) : ∃ a, v = .ref a ∧ SqT K H a [.str (wordS k.1), .int (k.2.1 : Int), .int (k.2.2 : Int)] := by
  obtain ⟨a, xs, rfl, h1, h2⟩ := Dp.tup' h
  cases h2 with
  | cons h3 h4 =>
    cases h4 with
    | cons h5 h6 =>
      cases h6 with
      | cons h7 h8 =>
        cases h8
        cases Dp.str' h3
        cases Dp.int' h5
        cases Dp.int' h7
        exact ⟨a, rfl, h1⟩
theorem br_at {K : PySem.W.Frag} {H : Hp} {us : List V} {l : List Br} (h : DpAll K H us (l.map brD)) {i : Nat} {z : V} (hz : us[i]? = some z) : ∃ k, l[i]? = some k ∧ ∃ a, z = .ref a ∧ SqT K H a [.str (wordS k.1), .int (k.2.1 : Int), .int (k.2.2 : Int)] := by
  obtain ⟨d, hd, dz⟩ := DpAll.get h hz
  rw [List.getElem?_map] at hd
  obtain ⟨k, hk, rfl⟩ := Option.map_eq_some_iff.mp hd
  obtain ⟨a, e, ha⟩ := Dp.br dz
  exact ⟨k, hk, a, e, ha⟩
theorem Tok.goW_lt {t : Tb} (ok : Tok t) : ∀ (w : List Bool) {s : Nat}, s < t.rows.length → goW t w s < t.rows.length
  | [], _, h => h
  | b :: w, _, h => Tok.goW_lt ok w (goT_lt ok h b)
theorem begT_lt {t : Tb} (ok : Tok t) (g : Nat) : begT t g < t.rows.length := ok.st _ (by
  have m0 := ok.m0
  have hl : g % t.m < t.starts.length := by rw [ok.tl]; exact Nat.mod_lt _ m0.1
  unfold begT
  rw [List.getElem?_eq_getElem hl]
  exact List.getElem_mem hl)
theorem spW_lt {t : Tb} (ok : Tok t) (w : List Bool) (g : Nat) : spW t w g < t.rows.length := Tok.goW_lt ok w (begT_lt ok g)
/-- the letters -/
theorem letters_at {j : Nat} {x : V} (h : [V.str "X", V.str "Y"][j]? = some x) : ∃ c : Bool, x = .str (letS c) ∧ (j = 0 ∧ c = true ∨ j = 1 ∧ c = false) := by
  match j, h with
  | 0, h => cases h; exact ⟨true, rfl, .inl ⟨rfl, rfl⟩⟩
  | 1, h => cases h; exact ⟨false, rfl, .inr ⟨rfl, rfl⟩⟩
end Bx
-- needs lists
-- imports KE.DataMinMax KE.KDictDisplayH HandS.Conv HandS.Small
namespace Bx
open PySem PySem.Spec PyProof.Rows L2
section
variable {X : Cx}
/-- x < y for alike data (numbers, texts, tuples, lists of these) -/
def rLtD (K : PySem.W.Frag) : R2 := fun x y H Q => ∃ d e, Dp K H x d ∧ Dp K H y e ∧ PySem.W.alike d e = true ∧ d ≠ .none ∧ d.depth ≤ 60 ∧ Q (.bl (PySem.W.dataLt d e)) H
theorem op_ltD (hu : X.A.units + 64 < cLine) : OpR X (compareOp .Lt) (rLtD X.K) := by
  intro pins s σ H x y v u Q I rx ry h
  obtain ⟨d, e, hd, he, al, nn, dp, q⟩ := h
  obtain ⟨as, r1⟩ := Dp.reads I d x v hd rx
  obtain ⟨bs, r2⟩ := Dp.reads I e y u he ry
  exact PySem.W.lt_data r1 r2 al nn (by have := Nat.min_le_left d.depth e.depth; omega) ⟨.bl _, H, I, rfl, q⟩
/-- max(t), t a tuple of whole numbers -/
def rMaxT (K : PySem.W.Frag) : List V → Hp → VK → Prop := fun vs H Q => ∃ (a : Addr) (i : Int) (ns : List Int), vs = [V.ref a] ∧ SqT K H a ((i :: ns).map V.int) ∧ Q (.int (ns.foldl max i)) H
theorem Dp.ints {K : PySem.W.Frag} {H : Hp} : ∀ ns : List Int, DpAll K H (ns.map V.int) (ns.map PyData.int)
  | [] => .nil
  | n :: ns => .cons (.int n) (Dp.ints ns)
theorem depth_ints : ∀ ns : List Int, PyData.depthAll (ns.map PyData.int) = 0
  | [] => rfl
  | n :: ns => by
    rw [List.map_cons, PyData.depthAll, depth_ints ns]
    rfl
theorem cr_maxT (hc : X.calm = true) (hu : X.A.units + 64 < cLine) : CallR X (.builtin "max") (rMaxT X.K) := by
  intro pins s σ H vs us Q I r h
  obtain ⟨a, i, ns, rfl, hs, q⟩ := h
  obtain ⟨its, rv, ⟨o, ho, hcl, n, hd⟩, _⟩ := I.tuple hs
  rw [Vals.ref1 r]
  obtain ⟨as, hr⟩ := Dp.readsAll I ((i :: ns).map PyData.int) _ its (Dp.ints (i :: ns)) rv
  have hal : PySem.W.AlikeAll ((i :: ns).map PyData.int) := by
    refine ⟨fun x hx y hy => ?_, fun x hx => ?_⟩
    · obtain ⟨k, _, rfl⟩ := List.mem_map.mp hx
      obtain ⟨l, _, rfl⟩ := List.mem_map.mp hy
      rfl
    · obtain ⟨k, _, rfl⟩ := List.mem_map.mp hx
      exact fun z => by cases z
  have hdep := depth_ints (i :: ns)
  refine PySem.W.max_tuple_data (x := .int i) (xs := ns.map PyData.int) (vs := its.toArray) (I.ok.hd hc) ⟨o, ho, hcl, n, hd⟩ (by simpa using hr) (by simpa using hal) (by rw [show (PyData.int i :: ns.map PyData.int) = (i :: ns).map PyData.int from rfl, hdep]; omega) fun j v h' tk bs hj hv hk => ?_
  rw [PySem.W.maxD_ints] at hv
  cases hv with
  | int _ t => exact ⟨.int _, H, I.kept hk, ⟨_, rfl⟩, q⟩
/-- {t: v}, t a tuple of numbers and texts; the new dict stands empty while the pair is made -/
def tDispT (tk tv : TE) : TE := fun σ H Q => ∀ p, H p = none → tk σ (upd H p (.dT [])) fun x H1 => tv σ H1 fun y H2 => H2 p = some (.dT []) ∧ ∃ k b, x = .ref b ∧ H2 b = some (.tup (k.map kV)) ∧ Q (.ref p) (upd H2 p (.dT [(k, y)]))
theorem pe_dispT {k v : Expr} {tk tv : TE} {pos : Pos} (hu : X.A.units + 1 < cLine) (hk : PE X k tk) (hv : PE X v tv) : PE X (.Dict [some k] [v] pos) (tDispT tk tv) := by
  refine ⟨fun pins s σ H Q I q => ?_⟩
  have hn := I.hok.fresh (Nat.le_refl s.heap.objs.size)
  have I1 := I.laid (a := s.heap.objs.size) (o := .dT []) (h' := s.heap.push { cls := .type "dict", data := .dict #[] }) (t' := s.toks) (fun _ _ q => Heap.get?_push_of_some _ q) (Nat.le_refl _) (dt_empty s.heap I.big)
  have hshape := zip_pairTrees [some k] [v] X.env pos rfl rfl
  rw [arm_eval_Dict, hshape, dictDisplay_pairs (pairTrees [some k] [v] X.env pos) (fun z => by cases z) (show (1 : Nat) < 17 by decide)]
  refine wpAny_bind (wpAny_standAt (wpAny_bind (wpAny_subDictH (knd := tupleKind (mixKind X.prog X.w)) (Q := fun d s' => wpAny (model X.prog X.w) X.A (pure (Value.ref d)) (EP X pins σ Q) X.xe s') (Nat.lt_of_succ_lt hu) (show (1 : Nat) ≤ 15 by decide) ?_)))
  refine thn ((pps_cons hk hv pps_nil).run pins _ σ _ (fun ps H2 => match ps with | [(x, y)] => H2 s.heap.objs.size = some (.dT []) ∧ ∃ k b, x = V.ref b ∧ H2 b = some (.tup (k.map kV)) ∧ Q (.ref s.heap.objs.size) (upd H2 s.heap.objs.size (.dT [(k, y)])) | _ => False) I1 (q _ hn)) fun ws s2 ⟨ps, H2, I2, rel, qq⟩ => ?_
  match ps, qq with
  | [(x, y)], qq =>
    obtain ⟨e, k2, b, rfl, eb, q2⟩ := qq
    cases rel with
    | @cons a ab as bs hrel t =>
      cases t
      obtain ⟨u, w2⟩ := ab
      obtain ⟨r1, r2⟩ := hrel
      have eu : u = Value.ref b := r1
      subst eu
      obtain ⟨z, hd, xs0, r0, dd⟩ := dt_of I2.hok e
      cases r0
      refine ⟨[(k2, b, w2)], ⟨rfl, rfl, key_of I2.hok eb, True.intro⟩, dd, fun h' tk2 dd' hs => wpAny_pure ⟨.ref s.heap.objs.size, _, ?_, rfl, q2⟩⟩
      obtain ⟨qo, es, ep, hq, h2, h3, h4, _, h5⟩ := dd'
      refine d_write I2 (by rw [e]; exact True.intro) hs ⟨qo, hq⟩ ⟨(show 1 ≤ sizeLine by decide), hd, _, (KT.put (H := H2) (kvs := []) (xs := []) .nil k2 eb r2).keeps fun c ys ec => ?_, qo, es, ep, hq, h2, h3, h4, h5⟩
      rw [upd_ne (ne_of ec e (fun z => nomatch z))]
      exact ec
end
end Bx
-- needs ways ruleD ruleS signs spell
-- imports KE.DatumOrd
namespace Bx
open PySem PySem.Spec PyProof.Rows L2
theorem DpAll.rev' {K : PySem.W.Frag} {H : Hp} : ∀ {ds : List PyData} {vs : List V}, DpAll K H vs ds → DpAll K H vs.reverse ds.reverse
  | [], _, h => by cases h; exact .nil
  | _ :: _, _, h => by
    cases h with
    | cons h1 h2 =>
      rw [List.reverse_cons, List.reverse_cons]
      exact DpAll.append (DpAll.rev' h2) (DpAll.one h1)
/-! ### the order of two rows of runs, from the bottom up -/
def cbL : List (Bool × Nat) → List (Bool × Nat) → Option Bool
  | a :: l, b :: r => if a.1 ≠ b.1 then some a.1 else if a.2 ≠ b.2 then some (decide (a.1 = true) == decide (a.2 > b.2)) else cbL l r
  | _, _ => none
/-- X stands ahead of Y -/
def ltB : List Bool → List Bool → Bool
  | a :: l, b :: r => if a = b then ltB l r else a
  | _, _ => false
theorem ltB_pre (c : Bool) : ∀ (n : Nat) (l r : List Bool), ltB (List.replicate n c ++ l) (List.replicate n c ++ r) = ltB l r
  | 0, _, _ => rfl
  | n + 1, l, r => by
    rw [List.replicate_succ, List.cons_append, List.cons_append, ltB, if_pos rfl]
    exact ltB_pre c n l r
def AltR (l : List (Bool × Nat)) : Prop := ∀ (i : Nat) (a b : Bool × Nat), l[i]? = some a → l[i + 1]? = some b → a.1 ≠ b.1
theorem AltR.tail {a : Bool × Nat} {l : List (Bool × Nat)} (h : AltR (a :: l)) : AltR l := fun i x y h1 h2 => h (i + 1) x y h1 h2
theorem spell_cons (a : Bool × Nat) (l : List (Bool × Nat)) : spell (a :: l) = List.replicate a.2 a.1 ++ spell l := rfl
theorem head_spell {b : Bool × Nat} {r : List (Bool × Nat)} (hb : 0 < b.2) : ∃ t, spell (b :: r) = b.1 :: t := by
  rw [spell_cons]
  obtain ⟨n, hn⟩ : ∃ n, b.2 = n + 1 := ⟨b.2 - 1, by omega⟩
  rw [hn, List.replicate_succ]
  exact ⟨_, rfl⟩
theorem cnt_cons' (a : Bool × Nat) (l : List (Bool × Nat)) : cnt (a :: l) = a.2 + cnt l := by
  unfold cnt
  rw [List.map_cons, List.sum_cons]
theorem cbL_ok : ∀ (l r : List (Bool × Nat)), AltR l → AltR r → (∀ x ∈ l, 0 < x.2) → (∀ x ∈ r, 0 < x.2) → cnt l = cnt r →
    (match cbL l r with | some b => ltB (spell l) (spell r) = b ∧ spell l ≠ spell r | none => spell l = spell r)
  | [], [], _, _, _, _, _ => rfl
  | [], b :: r, _, _, _, pr, hc => by
    have := pr b List.mem_cons_self
    rw [cnt_cons'] at hc
    exact absurd hc (by show ¬ 0 = _; omega)
  | a :: l, [], _, _, pl, _, hc => by
    have := pl a List.mem_cons_self
    rw [cnt_cons'] at hc
    exact absurd hc (by show ¬ _ = 0; omega)
  | (c, n) :: l, (d, m) :: r, al, ar, pl, pr, hc => by
    have hn : 0 < n := pl (c, n) List.mem_cons_self
    have hm : 0 < m := pr (d, m) List.mem_cons_self
    have pl' : ∀ x ∈ l, 0 < x.2 := fun x hx => pl x (List.mem_cons_of_mem _ hx)
    have pr' : ∀ x ∈ r, 0 < x.2 := fun x hx => pr x (List.mem_cons_of_mem _ hx)
    rw [cnt_cons', cnt_cons'] at hc
    have hc : n + cnt l = m + cnt r := hc
    unfold cbL
    dsimp only
    by_cases h : c = d
    · subst h
      rw [if_neg (fun z => z rfl)]
      rcases Nat.lt_trichotomy n m with h2 | h2 | h2
      · rw [if_pos (by omega)]
        cases l with
        | nil => exact absurd hc (by show ¬ n + 0 = _; omega)
        | cons e l =>
          have he : 0 < e.2 := pl' e List.mem_cons_self
          have hne : c ≠ e.1 := al 0 (c, n) e rfl rfl
          obtain ⟨t, ht⟩ := head_spell (r := l) he
          obtain ⟨k, rfl⟩ : ∃ k, m = n + (k + 1) := ⟨m - n - 1, by omega⟩
          have er : spell ((c, n + (k + 1)) :: r) = List.replicate n c ++ (c :: (List.replicate k c ++ spell r)) := by
            rw [spell_cons]
            show List.replicate (n + (k + 1)) c ++ spell r = _
            rw [← List.replicate_append_replicate, List.append_assoc, List.replicate_succ]
            rfl
          have el : spell ((c, n) :: e :: l) = List.replicate n c ++ (e.1 :: t) := by rw [spell_cons, ht]
          rw [er, el]
          have hg : decide (n > n + (k + 1)) = false := decide_eq_false (by omega)
          refine ⟨?_, fun z => ?_⟩
          · rw [ltB_pre, ltB, if_neg (fun z => hne z.symm), hg]
            revert hne
            cases c <;> cases e.1 <;> simp
          · exact hne (List.cons.inj (List.append_cancel_left z)).1.symm
      · subst h2
        rw [if_neg (fun z => z rfl)]
        have ih := cbL_ok l r al.tail ar.tail pl' pr' (by omega)
        rw [spell_cons, spell_cons]
        cases q : cbL l r with
        | none =>
          rw [q] at ih
          exact congrArg (List.replicate n c ++ ·) ih
        | some b =>
          rw [q] at ih
          exact ⟨by rw [ltB_pre]; exact ih.1, fun z => ih.2 (List.append_cancel_left z)⟩
      · rw [if_pos (by omega)]
        cases r with
        | nil => exact absurd hc (by show ¬ _ = m + 0; omega)
        | cons e r =>
          have he : 0 < e.2 := pr' e List.mem_cons_self
          have hne : c ≠ e.1 := ar 0 (c, m) e rfl rfl
          obtain ⟨t, ht⟩ := head_spell (r := r) he
          obtain ⟨k, rfl⟩ : ∃ k, n = m + (k + 1) := ⟨n - m - 1, by omega⟩
          have el : spell ((c, m + (k + 1)) :: l) = List.replicate m c ++ (c :: (List.replicate k c ++ spell l)) := by
            rw [spell_cons]
            show List.replicate (m + (k + 1)) c ++ spell l = _
            rw [← List.replicate_append_replicate, List.append_assoc, List.replicate_succ]
            rfl
          have er : spell ((c, m) :: e :: r) = List.replicate m c ++ (e.1 :: t) := by rw [spell_cons, ht]
          rw [er, el]
          have hg : decide (m + (k + 1) > m) = true := decide_eq_true (by omega)
          refine ⟨?_, fun z => ?_⟩
          · rw [ltB_pre, ltB, if_neg hne, hg]
            cases c <;> rfl
          · exact hne (List.cons.inj (List.append_cancel_left z)).1
    · rw [if_pos h]
      obtain ⟨t, ht⟩ := head_spell (b := (c, n)) (r := l) hn
      obtain ⟨u, hu⟩ := head_spell (b := (d, m)) (r := r) hm
      rw [ht, hu]
      exact ⟨by rw [ltB, if_neg h], fun z => h (List.cons.inj z).1⟩
/-! ### the words -/
theorem spell_append (l r : List (Bool × Nat)) : spell (l ++ r) = spell l ++ spell r := by
  unfold spell
  rw [List.flatMap_append]
theorem spell_rev : ∀ l : List (Bool × Nat), spell l.reverse = (spell l).reverse
  | [] => rfl
  | a :: l => by
    rw [List.reverse_cons, spell_append, spell_rev l, spell_cons a l, List.reverse_append, List.reverse_replicate]
    show _ ++ (List.replicate a.2 a.1 ++ []) = _
    rw [List.append_nil]
theorem revS_sgn (l : List Bool) : revS (sgn l) = sgn l.reverse := by
  unfold revS sgn
  simp
theorem lt_codes : ∀ (l r : List Bool), l.length = r.length → decide ((l.map fun b => if b then (88 : Nat) else 89) < (r.map fun b => if b then (88 : Nat) else 89)) = ltB l r
  | [], [], _ => rfl
  | [], _ :: _, h => by cases h
  | _ :: _, [], h => by cases h
  | a :: l, b :: r, h => by
    have ih := lt_codes l r (by simpa using h)
    rw [List.map_cons, List.map_cons, ltB]
    by_cases c : a = b
    · subst c
      rw [if_pos rfl, ← ih]
      have e : (((if a = true then (88 : Nat) else 89) :: l.map fun b => if b then (88 : Nat) else 89) < ((if a = true then (88 : Nat) else 89) :: r.map fun b => if b then (88 : Nat) else 89)) ↔ ((l.map fun b => if b then (88 : Nat) else 89) < (r.map fun b => if b then (88 : Nat) else 89)) := by
        constructor
        · intro z
          rcases List.cons_lt_cons_iff.mp z with q | q
          · exact absurd q (Nat.lt_irrefl _)
          · exact q.2
        · intro z
          exact List.cons_lt_cons_iff.mpr (.inr ⟨rfl, z⟩)
      exact decide_eq_decide.mpr e
    · rw [if_neg c]
      cases a <;> cases b
      · exact absurd rfl c
      · exact decide_eq_false fun z => by
          rcases List.cons_lt_cons_iff.mp z with q | q
          · exact absurd q (by decide)
          · exact absurd q.1 (by decide)
      · exact decide_eq_true (List.cons_lt_cons_iff.mpr (.inl (by decide)))
      · exact absurd rfl c
/-! ### the keys -/
def botI (x y : Nat) : Nat := if y = 0 then 1 else if x = 0 then 2 else 0
def keyD (x y : Nat) : PyData := .tuple [.int (((L x y).length : Nat) : Int), .str (sgn (L x y).reverse), .int ((botI x y : Nat) : Int), .int ((Nat.gcd x y : Nat) : Int)]
def tailD (x y : Nat) : PyData := .tuple [.int ((botI x y : Nat) : Int), .int ((Nat.gcd x y : Nat) : Int)]
def cbP (x y u w : Nat) : Bool :=
  if cnt (R x y).reverse ≠ cnt (R u w).reverse then decide (cnt (R x y).reverse < cnt (R u w).reverse)
  else match cbL (R x y).reverse (R u w).reverse with
    | some b => b
    | none => PySem.W.dataLt (tailD x y) (tailD u w)
theorem lt_hd {a b : Int} (l r : List (Int ⊕ List Nat)) (h : a ≠ b) : PyProof.Rows.lexLt PyProof.Rows.itemOrd (.inl 1 :: (.inl a :: l)) (.inl 1 :: (.inl b :: r)) = decide (a < b) := by
  rw [PyProof.Rows.lex_self (O := PyProof.Rows.itemOrd), PyProof.Rows.lex_diff (O := PyProof.Rows.itemOrd) (fun z => h (Sum.inl.inj z))]
  rfl
theorem lt_hs {a b : List Nat} (l r : List (Int ⊕ List Nat)) (h : a ≠ b) : PyProof.Rows.lexLt PyProof.Rows.itemOrd (.inl 1 :: (.inr a :: l)) (.inl 1 :: (.inr b :: r)) = decide (a < b) := by
  rw [PyProof.Rows.lex_self (O := PyProof.Rows.itemOrd), PyProof.Rows.lex_diff (O := PyProof.Rows.itemOrd) (fun z => h (Sum.inr.inj z))]
  rfl
theorem lt_same (a : Int ⊕ List Nat) (l r : List (Int ⊕ List Nat)) : PyProof.Rows.lexLt PyProof.Rows.itemOrd (.inl 1 :: (a :: l)) (.inl 1 :: (a :: r)) = PyProof.Rows.lexLt PyProof.Rows.itemOrd l r := by
  rw [PyProof.Rows.lex_self (O := PyProof.Rows.itemOrd), PyProof.Rows.lex_self (O := PyProof.Rows.itemOrd)]
theorem toks_key (n : Int) (w : Str) (i g : Int) : PySem.W.keyToksAll [.int n, .str w, .int i, .int g] = .inl 1 :: (.inl n :: (.inl 1 :: (.inr w.cps.toList :: PySem.W.keyToksAll [.int i, .int g]))) := by
  simp only [PySem.W.keyToksAll, PySem.W.keyToks]
  rfl
theorem sgn_cps (l : List Bool) : (sgn l).cps.toList = l.map fun b => if b then 88 else 89 := by
  unfold sgn
  simp
theorem map_inj_codes : ∀ {l r : List Bool}, (l.map fun b => if b then (88 : Nat) else 89) = (r.map fun b => if b then (88 : Nat) else 89) → l = r
  | [], [], _ => rfl
  | [], _ :: _, h => by cases h
  | _ :: _, [], h => by cases h
  | a :: l, b :: r, h => by
    rw [List.map_cons, List.map_cons] at h
    have h1 := (List.cons.inj h).1
    have h2 := map_inj_codes (List.cons.inj h).2
    subst h2
    cases a <;> cases b
    · rfl
    · exact absurd h1 (by decide)
    · exact absurd h1 (by decide)
    · rfl
theorem AltR.rev {l : List (Bool × Nat)} (h : AltR l) : AltR l.reverse := fun i a b h1 h2 => by
  have hi2 : i + 1 < l.length := by
    have := (List.getElem?_eq_some_iff.mp h2).1
    rw [List.length_reverse] at this
    exact this
  rw [List.getElem?_reverse (by omega)] at h1
  rw [List.getElem?_reverse hi2] at h2
  have e : l.length - 1 - i = (l.length - 1 - (i + 1)) + 1 := by omega
  rw [e] at h1
  exact fun z => h _ _ _ h2 h1 z.symm
theorem cnt_len (x y : Nat) : cnt (R x y).reverse = (L x y).length := by
  rw [← spell_R, spell_len]
  unfold cnt
  rw [List.map_reverse, List.sum_reverse]
theorem cbP_key (x y u w : Nat) : cbP x y u w = PySem.W.dataLt (keyD x y) (keyD u w) := by
  unfold cbP keyD
  rw [PySem.W.dataLt_tuple, toks_key, toks_key]
  by_cases h : cnt (R x y).reverse = cnt (R u w).reverse
  · rw [if_neg (fun z => z h)]
    have hl : (L x y).length = (L u w).length := by rw [← cnt_len, ← cnt_len]; exact h
    have ok := cbL_ok (R x y).reverse (R u w).reverse (AltR.rev (R_alt x y)) (AltR.rev (R_alt u w)) (fun r hr => R_pos' x y r (List.mem_reverse.mp hr)) (fun r hr => R_pos' u w r (List.mem_reverse.mp hr)) h
    rw [spell_rev, spell_rev, spell_R, spell_R] at ok
    rw [hl, lt_same, sgn_cps, sgn_cps]
    cases q : cbL (R x y).reverse (R u w).reverse with
    | none =>
      rw [q] at ok
      dsimp only at ok ⊢
      rw [ok, lt_same]
      unfold tailD
      rw [PySem.W.dataLt_tuple]
    | some b =>
      rw [q] at ok
      dsimp only at ok ⊢
      rw [lt_hs _ _ (fun z => ok.2 (map_inj_codes z)), lt_codes _ _ (by rw [List.length_reverse, List.length_reverse, hl])]
      exact ok.1.symm
  · rw [if_pos h]
    rw [cnt_len, cnt_len] at h ⊢
    rw [lt_hd _ _ (by omega)]
    exact decide_eq_decide.mpr (by omega)
theorem dataLt_self' (d : PyData) : PySem.W.dataLt d d = false := PySem.W.dataLt_self d
theorem cbP_self (x y : Nat) : cbP x y x y = false := by rw [cbP_key]; exact dataLt_self' _
end Bx
-- needs firstq order
namespace Bx
open PySem PySem.Spec PyProof.Rows L2
theorem spell_push (rs : List (Bool × Nat)) (b : Bool) : spell (pushR rs b) = b :: spell rs := by
  unfold pushR
  cases rs with
  | nil => rfl
  | cons r l =>
    dsimp only
    split
    · rename_i e
      rw [spell_cons, spell_cons]
      dsimp only
      rw [List.replicate_succ, e]
      rfl
    · rfl
theorem spell_enc0 : ∀ (w : List Bool) (rs : List (Bool × Nat)), spell (w.foldl pushR rs) = w.reverse ++ spell rs
  | [], _ => rfl
  | c :: w, rs => by
    rw [List.foldl_cons, spell_enc0 w, spell_push, List.reverse_cons, List.append_assoc]
    rfl
theorem spell_enc (w : List Bool) : spell (encW w) = w.reverse := by
  have := spell_enc0 w []
  rw [show spell ([] : List (Bool × Nat)) = [] from rfl, List.append_nil] at this
  exact this
theorem L_build {g : Nat} (hg : 1 ≤ g) (w : List Bool) : L (buildP g (encW w)).1 (buildP g (encW w)).2 = w.reverse := by
  obtain ⟨a1, a2, a3, a4, _⟩ := buildP_ok hg (encW_alt w)
  rw [← spell_R, a3, spell_enc]
theorem fold_spellW (t : Tb) : ∀ (l : List (Bool × Nat)) (s : Nat), l.foldl (fun s r => goN t r.1 r.2 s) s = goW t (spell l) s
  | [], _ => rfl
  | r :: l, s => by
    rw [List.foldl_cons, fold_spellW t l, goN_word, spell_cons]
    unfold goW
    rw [List.foldl_append]
theorem hasT_pos {t : Tb} {x y : Nat} (hx : 0 < x) (hy : 0 < y) : hasT t x y = goodT t (spW t (L x y).reverse (Nat.gcd x y)) := by
  unfold hasT
  rw [if_neg (by omega), if_neg (by omega), fold_spellW, spell_rev, spell_R]
  rfl
/-! pairs that grow letter by letter -/
def grow1 (p : Nat × Nat) (c : Bool) : Nat × Nat := if c then (p.1 + p.2, p.2) else (p.1, p.2 + p.1)
def growW (p : Nat × Nat) (w : List Bool) : Nat × Nat := w.foldl grow1 p
theorem grow1_ok {p : Nat × Nat} (h1 : 0 < p.1) (h2 : 0 < p.2) (c : Bool) : 0 < (grow1 p c).1 ∧ 0 < (grow1 p c).2 ∧ L (grow1 p c).1 (grow1 p c).2 = c :: L p.1 p.2 ∧ Nat.gcd (grow1 p c).1 (grow1 p c).2 = Nat.gcd p.1 p.2 := by
  obtain ⟨x, y⟩ := p
  dsimp only at h1 h2
  cases c
  · show 0 < x ∧ 0 < y + x ∧ L x (y + x) = false :: L x y ∧ Nat.gcd x (y + x) = Nat.gcd x y
    refine ⟨h1, by omega, ?_, ?_⟩
    · rw [L_y h1 (by omega), Nat.add_sub_cancel]
    · rw [Nat.gcd_add_self_right]
  · show 0 < x + y ∧ 0 < y ∧ L (x + y) y = true :: L x y ∧ Nat.gcd (x + y) y = Nat.gcd x y
    refine ⟨by omega, h2, ?_, ?_⟩
    · rw [L_x h2 (by omega), Nat.add_sub_cancel]
    · rw [Nat.gcd_add_self_left]
theorem growW_ok : ∀ (w : List Bool) {p : Nat × Nat}, 0 < p.1 → 0 < p.2 → 0 < (growW p w).1 ∧ 0 < (growW p w).2 ∧ L (growW p w).1 (growW p w).2 = w.reverse ++ L p.1 p.2 ∧ Nat.gcd (growW p w).1 (growW p w).2 = Nat.gcd p.1 p.2
  | [], _, h1, h2 => ⟨h1, h2, rfl, rfl⟩
  | c :: w, p, h1, h2 => by
    obtain ⟨a1, a2, a3, a4⟩ := grow1_ok h1 h2 c
    obtain ⟨b1, b2, b3, b4⟩ := growW_ok w a1 a2
    refine ⟨b1, b2, ?_, b4.trans a4⟩
    refine b3.trans ?_
    rw [a3, List.reverse_cons, List.append_assoc]
    rfl
theorem growW_le : ∀ (w : List Bool) {p : Nat × Nat} {n : Nat}, p.1 < 2 ^ n → p.2 < 2 ^ n → (growW p w).1 < 2 ^ (n + w.length) ∧ (growW p w).2 < 2 ^ (n + w.length)
  | [], _, _, h1, h2 => ⟨h1, h2⟩
  | c :: w, p, n, h1, h2 => by
    have e : n + (c :: w).length = n + 1 + w.length := by rw [List.length_cons]; omega
    rw [e]
    have e2 : 2 ^ (n + 1) = 2 ^ n + 2 ^ n := by rw [Nat.pow_succ, Nat.mul_two]
    refine growW_le w (p := grow1 p c) (n := n + 1) ?_ ?_
    · unfold grow1
      split <;> dsimp only <;> omega
    · unfold grow1
      split <;> dsimp only <;> omega
theorem growW_L : ∀ (n x y : Nat), x + y ≤ n → 0 < x → 0 < y → growW (Nat.gcd x y, Nat.gcd x y) (L x y).reverse = (x, y)
  | 0, x, y, h, hx, hy => by omega
  | n + 1, x, y, h, hx, hy => by
    rcases Nat.lt_or_ge y x with c | c
    · have ih := growW_L n (x - y) y (by omega) (by omega) hy
      have eg : Nat.gcd (x - y) y = Nat.gcd x y := by
        have := Nat.gcd_add_self_left y (x - y)
        rw [Nat.sub_add_cancel (by omega)] at this
        exact this.symm
      rw [L_x hy c, List.reverse_cons]
      rw [eg] at ih
      unfold growW at ih ⊢
      rw [List.foldl_append, ih]
      show (x - y + y, y) = (x, y)
      rw [Nat.sub_add_cancel (by omega)]
    · rcases Nat.lt_or_ge x y with d | d
      · have ih := growW_L n x (y - x) (by omega) hx (by omega)
        have eg : Nat.gcd x (y - x) = Nat.gcd x y := by
          have := Nat.gcd_add_self_right x (y - x)
          rw [Nat.sub_add_cancel (by omega)] at this
          exact this.symm
        rw [L_y hx d, List.reverse_cons]
        rw [eg] at ih
        unfold growW at ih ⊢
        rw [List.foldl_append, ih]
        show (x, y - x + x) = (x, y)
        rw [Nat.sub_add_cancel (by omega)]
      · obtain rfl : x = y := by omega
        rw [L_nil (by omega), Nat.gcd_self]
        rfl
/-! the place of a pair in the order, for divisors up to six -/
def NK (x y : Nat) : Nat := 21 * Vn 1 (L x y).reverse + 7 * botI x y + Nat.gcd x y
theorem botI_le (x y : Nat) : botI x y ≤ 2 := by
  unfold botI
  split
  · omega
  · split <;> omega
theorem gcd_pos' {x y : Nat} (h : ¬ (x = 0 ∧ y = 0)) : 1 ≤ Nat.gcd x y := Nat.pos_of_ne_zero fun z => h (Nat.gcd_eq_zero_iff.mp z)
theorem NK_parts {x y u v : Nat} (hg : Nat.gcd x y ≤ 6) (hg' : Nat.gcd u v ≤ 6) (nz : ¬ (x = 0 ∧ y = 0)) (nz' : ¬ (u = 0 ∧ v = 0)) (h : NK x y = NK u v) : L x y = L u v ∧ botI x y = botI u v ∧ Nat.gcd x y = Nat.gcd u v := by
  have a := botI_le x y
  have b := botI_le u v
  have c := gcd_pos' nz
  have d := gcd_pos' nz'
  unfold NK at h
  have e : Vn 1 (L x y).reverse = Vn 1 (L u v).reverse := by omega
  exact ⟨List.reverse_inj.mp (Vn_eq e), by omega, by omega⟩
theorem NK_inj {x y u v : Nat} (hg : Nat.gcd x y ≤ 6) (hg' : Nat.gcd u v ≤ 6) (nz : ¬ (x = 0 ∧ y = 0)) (nz' : ¬ (u = 0 ∧ v = 0)) (h : NK x y = NK u v) : x = u ∧ y = v := by
  obtain ⟨h1, h2, h3⟩ := NK_parts hg hg' nz nz' h
  unfold botI at h2
  by_cases hy : y = 0
  · subst hy
    rw [if_pos rfl] at h2
    by_cases hv : v = 0
    · subst hv
      rw [Nat.gcd_zero_right, Nat.gcd_zero_right] at h3
      exact ⟨h3, rfl⟩
    · rw [if_neg hv] at h2
      split at h2 <;> omega
  · rw [if_neg hy] at h2
    by_cases hv : v = 0
    · rw [if_pos hv] at h2
      split at h2 <;> omega
    · rw [if_neg hv] at h2
      by_cases hx : x = 0
      · subst hx
        by_cases hu : u = 0
        · subst hu
          rw [Nat.gcd_zero_left, Nat.gcd_zero_left] at h3
          exact ⟨rfl, h3⟩
        · rw [if_pos rfl, if_neg hu] at h2
          omega
      · by_cases hu : u = 0
        · rw [if_neg hx, if_pos hu] at h2
          omega
        · have a := growW_L _ x y (Nat.le_refl _) (by omega) (by omega)
          have b := growW_L _ u v (Nat.le_refl _) (by omega) (by omega)
          rw [h1, h3, b] at a
          exact ⟨(Prod.mk.inj a).1.symm, (Prod.mk.inj a).2.symm⟩
theorem NK_len {x y u v : Nat} (hg : Nat.gcd x y ≤ 6) (hg' : Nat.gcd u v ≤ 6) (h : NK x y ≤ NK u v) : (L x y).length ≤ (L u v).length := by
  have b := botI_le u v
  unfold NK at h
  have e : Vn 1 (L x y).reverse ≤ Vn 1 (L u v).reverse ∨ Vn 1 (L u v).reverse < Vn 1 (L x y).reverse := by omega
  rcases e with e | e
  · have := Vn_mono e
    rw [List.length_reverse, List.length_reverse] at this
    exact this
  · omega
/-- a divisor that leaves the same rest -/
theorem rng_le {t : Tb} (ok : Tok t) {g : Nat} (hg : 1 ≤ g) : ∃ g', Rng t g' ∧ g' ≤ g ∧ g' % t.m = g % t.m := by
  have m0 := ok.m0
  have hlt := Nat.mod_lt (g - 1) m0.1
  have hle := Nat.mod_le (g - 1) t.m
  refine ⟨(g - 1) % t.m + 1, ⟨by omega, by omega⟩, by omega, ?_⟩
  rw [← Nat.add_mod_mod, Nat.mod_add_mod, Nat.add_mod_mod, Nat.sub_add_cancel hg]
theorem begT_md {t : Tb} {g g' : Nat} (h : g' % t.m = g % t.m) : begT t g' = begT t g := by
  unfold begT
  rw [h]
theorem base_mod {t : Tb} {b g g' : Nat} (hg : 1 ≤ g) (hg' : 1 ≤ g') (h : g' % t.m = g % t.m) : hasT t (baseP b g').1 (baseP b g').2 = hasT t (baseP b g).1 (baseP b g).2 := by
  rw [hasT_base t hg, hasT_base t hg', h, begT_md h]
  unfold baseP
  by_cases h0 : b = 0
  · rw [if_pos h0, if_pos h0]
    dsimp only
    rw [if_neg (by omega), if_neg (by omega), if_neg (by omega), if_neg (by omega)]
  · rw [if_neg h0, if_neg h0]
    by_cases h1 : b = 1
    · rw [if_pos h1, if_pos h1]
      dsimp only
      rw [if_pos rfl, if_pos rfl]
    · rw [if_neg h1, if_neg h1]
      dsimp only
      rw [if_neg (by omega), if_pos rfl, if_neg (by omega)]
/-- a pair without letters is a bottom -/
theorem base_of {x y : Nat} (nz : ¬ (x = 0 ∧ y = 0)) (h : L x y = []) : (x, y) = baseP (botI x y) (Nat.gcd x y) := by
  unfold botI
  by_cases hy : y = 0
  · subst hy
    rw [if_pos rfl, Nat.gcd_zero_right]
    rfl
  · rw [if_neg hy]
    by_cases hx : x = 0
    · subst hx
      rw [if_pos rfl, Nat.gcd_zero_left]
      rfl
    · rw [if_neg hx]
      have := growW_L _ x y (Nat.le_refl _) (by omega) (by omega)
      rw [h] at this
      exact this.symm
theorem base_parts {b g : Nat} (hb : b < 3) (hg : 1 ≤ g) : L (baseP b g).1 (baseP b g).2 = [] ∧ botI (baseP b g).1 (baseP b g).2 = b ∧ Nat.gcd (baseP b g).1 (baseP b g).2 = g ∧ ¬ ((baseP b g).1 = 0 ∧ (baseP b g).2 = 0) := by
  unfold baseP botI
  by_cases h0 : b = 0
  · rw [if_pos h0]
    dsimp only
    refine ⟨L_nil (by omega), ?_, Nat.gcd_self g, by omega⟩
    rw [if_neg (by omega), if_neg (by omega), h0]
  · rw [if_neg h0]
    by_cases h1 : b = 1
    · rw [if_pos h1]
      dsimp only
      refine ⟨L_nil (by omega), ?_, Nat.gcd_zero_right g, by omega⟩
      rw [if_pos rfl, h1]
    · rw [if_neg h1]
      dsimp only
      refine ⟨L_nil (by omega), ?_, Nat.gcd_zero_left g, by omega⟩
      rw [if_neg (by omega), if_pos rfl]
      omega
theorem word_parts {g : Nat} (hg : 1 ≤ g) (w : List Bool) : L (buildP g (encW w)).1 (buildP g (encW w)).2 = w.reverse ∧ botI (buildP g (encW w)).1 (buildP g (encW w)).2 = 0 ∧ Nat.gcd (buildP g (encW w)).1 (buildP g (encW w)).2 = g := by
  obtain ⟨a1, a2, a3, a4, _⟩ := buildP_ok hg (encW_alt w)
  refine ⟨L_build hg w, ?_, a4⟩
  unfold botI
  rw [if_neg (by omega), if_neg (by omega)]
theorem pos_of_L {x y : Nat} (h : L x y ≠ []) : 0 < x ∧ 0 < y := by
  by_cases c : 0 < x ∧ 0 < y ∧ x ≠ y
  · exact ⟨c.1, c.2.1⟩
  · exact absurd (L_nil c) h
theorem Vn_two {w : List Bool} (h : w ≠ []) : 2 ≤ Vn 1 w := by
  have := Vn_len (u := []) (w := w) (List.length_pos_iff.mpr h)
  have e : Vn 1 [] = 1 := rfl
  omega
/-- the set's first pair comes first -/
theorem FirstAt.least {t : Tb} (ok : Tok t) {x y : Nat} (h : FirstAt t x y) : Nat.gcd x y ≤ 6 ∧ ∀ u v, ¬ (u = 0 ∧ v = 0) → hasT t u v = true → NK x y ≤ NK u v := by
  have m6 := ok.m0.2
  rcases h with ⟨b, g, hb, r, e, q, lo⟩ | ⟨nb, w, g, r, e, q, lo⟩
  · obtain ⟨p1, p2, p3, p4⟩ := base_parts hb r.a
    rw [← e] at p1 p2 p3
    dsimp only at p1 p2 p3
    have ra := r.a
    have rb := r.b
    refine ⟨by omega, fun u v nz hq => ?_⟩
    unfold NK
    rw [p1, p2, p3]
    have gp := gcd_pos' nz
    by_cases hL : L u v = []
    · obtain ⟨g', r', l', e'⟩ := rng_le ok gp
      have hb' : botI u v < 3 := by have := botI_le u v; omega
      have eb := base_of nz hL
      have hh := base_mod (b := botI u v) gp r'.a e'
      rw [← eb] at hh
      dsimp only at hh
      have := lo (botI u v) g' hb' r' (hh.trans hq)
      rw [hL]
      have e1 : Vn 1 ([] : List Bool).reverse = 1 := rfl
      omega
    · have := Vn_two (w := (L u v).reverse) fun z => hL (List.reverse_eq_nil_iff.mp z)
      have e1 : Vn 1 ([] : List Bool).reverse = 1 := rfl
      omega
  · obtain ⟨p1, p2, p3⟩ := word_parts r.a w
    rw [← e] at p1 p2 p3
    dsimp only at p1 p2 p3
    have ra := r.a
    have rb := r.b
    refine ⟨by omega, fun u v nz hq => ?_⟩
    unfold NK
    rw [p1, p2, p3, List.reverse_reverse]
    have gp := gcd_pos' nz
    obtain ⟨g', r', l', e'⟩ := rng_le ok gp
    by_cases hL : L u v = []
    · exfalso
      have hb' : botI u v < 3 := by have := botI_le u v; omega
      have eb := base_of nz hL
      have hh := base_mod (b := botI u v) gp r'.a e'
      rw [← eb] at hh
      dsimp only at hh
      rw [nb (botI u v) g' hb' r', hq] at hh
      cases hh
    · obtain ⟨hu, hv⟩ := pos_of_L hL
      rw [hasT_pos hu hv] at hq
      have hq' : goodT t (spW t (L u v).reverse g') = true := by
        unfold spW at hq ⊢
        rw [begT_md e']
        exact hq
      have := lo _ g' r' hq'
      unfold Kn at this
      have r6 := r'.b
      have r1 := r'.a
      omega
theorem FirstAt.nz {t : Tb} {x y : Nat} (h : FirstAt t x y) : ¬ (x = 0 ∧ y = 0) := h.has.2
/-! the law's rows -/
def rowK (p : Nat × Nat) : PyData := .tuple [.int (((L p.1 p.2).length : Nat) : Int), .str (sgn (L p.1 p.2).reverse), .int ((botI p.1 p.2 : Nat) : Int), .int ((Nat.gcd p.1 p.2 : Nat) : Int), .int (p.1 : Int), .int (p.2 : Int)]
theorem rowK_lt {p q : Nat × Nat} (hl : (L p.1 p.2).length = (L q.1 q.2).length) (hg : Nat.gcd p.1 p.2 ≤ 6) (hg' : Nat.gcd q.1 q.2 ≤ 6) (h : NK p.1 p.2 < NK q.1 q.2) : PySem.W.dataLt (rowK p) (rowK q) = true := by
  have a := botI_le p.1 p.2
  have b := botI_le q.1 q.2
  unfold rowK
  rw [PySem.W.dataLt_tuple, PySem.W.dataLt_cons (by simp [PySem.W.alike]), PySem.W.dataLt_cons (by simp [PySem.W.alike]), PySem.W.dataLt_cons (by simp [PySem.W.alike]), PySem.W.dataLt_cons (by simp [PySem.W.alike])]
  unfold NK at h
  rw [hl]
  rw [if_pos (by simp [PyData.eqv])]
  by_cases e : (L p.1 p.2).reverse = (L q.1 q.2).reverse
  · rw [e] at h ⊢
    rw [if_pos (by simp [PyData.eqv])]
    by_cases e2 : botI p.1 p.2 = botI q.1 q.2
    · rw [e2] at h ⊢
      rw [if_pos (by simp [PyData.eqv]), if_neg (by simp only [PyData.eqv, beq_iff_eq]; omega), PySem.W.dataLt_int]
      exact decide_eq_true (by omega)
    · rw [if_neg (by simp only [PyData.eqv, beq_iff_eq]; omega), PySem.W.dataLt_int]
      exact decide_eq_true (by omega)
  · have hv : Vn 1 (L p.1 p.2).reverse < Vn 1 (L q.1 q.2).reverse := by
      rcases Nat.lt_or_ge (Vn 1 (L p.1 p.2).reverse) (Vn 1 (L q.1 q.2).reverse) with z | z
      · exact z
      · exact absurd (Vn_eq (show Vn 1 (L p.1 p.2).reverse = Vn 1 (L q.1 q.2).reverse by omega)) e
    have hw := (wordL_lt (by rw [List.length_reverse, List.length_reverse, hl]) (Nat.le_refl 1) hv).resolve_left (by omega)
    rw [if_neg, PySem.W.dataLt_str]
    · exact decide_eq_true hw
    · intro z
      simp only [PyData.eqv, beq_iff_eq] at z
      have z2 : wordL (L p.1 p.2).reverse = wordL (L q.1 q.2).reverse := by
        have := congrArg (fun s : Str => s.cps.toList) z
        exact this
      rw [z2] at hw
      exact absurd hw (List.lt_irrefl _)
/-- the head of the sorted rows is the least one -/
theorem rows_head {ps : List (Nat × Nat)} {n : Nat} {x y : Nat} (hm : (x, y) ∈ ps) (hall : ∀ p ∈ ps, (L p.1 p.2).length = n ∧ Nat.gcd p.1 p.2 ≤ 6 ∧ ¬ (p.1 = 0 ∧ p.2 = 0) ∧ NK x y ≤ NK p.1 p.2) {h : Nat × Nat} {r : List (Nat × Nat)}
    (e : ps.mergeSort (PySem.W.dataLe false rowK) = h :: r) : h = (x, y) := by
  have pm := List.mergeSort_perm ps (PySem.W.dataLe false rowK)
  have q : (ps.mergeSort (PySem.W.dataLe false rowK)).Pairwise fun a b => PySem.W.dataLe false rowK a b = true := by
    have TL := PySem.W.sortLe_total (PyProof.Rows.listOrd PyProof.Rows.itemOrd) false fun b : Nat × Nat => PySem.W.keyToks (rowK b)
    exact List.pairwise_mergeSort (fun a b c h1 h2 => TL.trans a b c h1 h2) (fun a b => Bool.or_eq_true_iff.mpr (TL.total a b)) _
  rw [e] at q pm
  have hh := hall h (pm.mem_iff.mp (List.mem_cons_self ..))
  have hx := hall (x, y) hm
  rcases List.mem_cons.mp (pm.mem_iff.mpr hm) with z | z
  · exact z.symm
  · have le := (List.pairwise_cons.mp q).1 _ z
    have ne : ¬ NK x y < NK h.1 h.2 := fun lt => by
      have := rowK_lt (p := (x, y)) (q := h) (by rw [hh.1, hx.1]) hx.2.1 hh.2.1 lt
      rw [PySem.W.dataLe_eq] at le
      simp only [cond_false] at le
      rw [this] at le
      cases le
    have e2 : NK x y = NK h.1 h.2 := by
      have := hh.2.2.2
      omega
    obtain ⟨a, b⟩ := NK_inj hx.2.1 hh.2.1 hx.2.2.1 hh.2.2.1 e2
    dsimp only at a b
    rw [a, b]
end Bx
-- needs apart canon eqs
/-! the least table: rows in order, told apart, no smaller modulus -/
namespace Bx
open PySem PySem.Spec PyProof.Rows L2
theorem idx_inj {o : List Nat} {a b : Nat} (ha : a ∈ o) (hb : b ∈ o) (h : idxK o a = idxK o b) : a = b := by
  have h1 := idx_get ha
  rw [h, idx_get hb] at h1
  exact (Option.some.inj h1).symm
theorem idx_at {o : List Nat} (h : o.Nodup) {i c : Nat} (hc : o[i]? = some c) : idxK o c = i := by
  have hi := (List.getElem?_eq_some_iff.mp hc).1
  have e := (List.getElem?_eq_some_iff.mp hc).2
  unfold idxK
  rw [← e]
  exact h.idxOf_getElem i hi
theorem map_idx {o x : List Nat} (h : o.Nodup) (p : x <+: o) : x.map (idxK o) = List.range x.length := by
  apply List.ext_getElem?
  intro i
  rw [List.getElem?_map]
  by_cases hi : i < x.length
  · rw [List.getElem?_range hi, List.getElem?_eq_getElem hi, Option.map_some]
    obtain ⟨r, hr⟩ := p
    rw [idx_at h (i := i) (by rw [← hr, List.getElem?_append_left hi, List.getElem?_eq_getElem hi])]
  · rw [List.getElem?_eq_none (by omega), List.getElem?_eq_none (by rw [List.length_range]; omega)]
    rfl
theorem fstep_map {o x : List Nat} {c : Nat} (hx : ∀ a ∈ x, a ∈ o) (hc : c ∈ o) : (fstep x c).map (idxK o) = fstep (x.map (idxK o)) (idxK o c) := by
  unfold fstep
  by_cases h : c ∈ x
  · rw [if_pos h, if_pos (List.mem_map_of_mem h)]
  · rw [if_neg h, if_neg, List.map_append]
    · rfl
    · intro z
      obtain ⟨d, hd, e⟩ := List.mem_map.mp z
      exact h (idx_inj (hx d hd) hc e ▸ hd)
theorem firsts_map {o : List Nat} : ∀ (ks acc : List Nat), (∀ a ∈ acc, a ∈ o) → (∀ a ∈ ks, a ∈ o) → (ks.foldl fstep acc).map (idxK o) = (ks.map (idxK o)).foldl fstep (acc.map (idxK o))
  | [], _, _, _ => rfl
  | k :: ks, acc, ha, hk => by
    have h1 := hk k List.mem_cons_self
    rw [List.map_cons, List.foldl_cons, List.foldl_cons, ← fstep_map ha h1]
    exact firsts_map ks _ (fun a h => by
      rcases fstep_mem.mp h with z | z
      · exact ha a z
      · rw [z]; exact h1) fun a h => hk a (List.mem_cons_of_mem _ h)
/-- the law's own walk over the rows, in order -/
def inoS (u : Tb) (F : List Nat) (k : Nat) : List Nat := match F[k]? with
  | some q => match u.rows[q]? with
    | some r => fstep (fstep F r.1) r.2.1
    | none => F
  | none => F
def inoK (u : Tb) (F : List Nat) : Nat → List Nat
  | 0 => F
  | k + 1 => inoS u (inoK u F k) k
section
variable {t : Tb} {f : Nat → Nat} {s : Nat}
theorem leastF_order (ok : Tok t) (hf : Cls t f) (k : Nat) (hk : k ≤ t.rows.length) : inoK (leastF t f s) (firsts (leastF t f s).starts) k = List.range (ordK t f (firsts (begF t f s)) k).length := by
  have ob : Ordl t f (firsts (begF t f s)) := ordl_firsts ok
  have oF : Ordl t f (ordF t f s) := ordF_l ok
  have pre : ∀ k, k ≤ t.rows.length → ordK t f (firsts (begF t f s)) k <+: ordF t f s := fun k hk => by
    have p := ordK_pre t f (firsts (begF t f s)) k (t.rows.length - k)
    rw [show k + (t.rows.length - k) = t.rows.length by omega] at p
    exact p
  induction k with
  | zero =>
    show firsts ((begF t f s).map (idxK (ordF t f s))) = _
    have p0 := pre 0 (Nat.zero_le _)
    have e := firsts_map (o := ordF t f s) (begF t f s) [] (fun a h => absurd h List.not_mem_nil) fun a h => ordF_beg h
    rw [← map_idx oF.nd p0]
    exact e.symm
  | succ k ih =>
    have ih := ih (by omega)
    have p1 := pre k (by omega)
    have p2 := pre (k + 1) hk
    show inoS _ (inoK _ _ k) k = _
    rw [ih]
    rw [← map_idx oF.nd p2]
    have hs : ordK t f (firsts (begF t f s)) (k + 1) = ordS t f (ordK t f (firsts (begF t f s)) k) k := rfl
    rw [hs]
    have okk := ob.ordK ok k
    generalize ordK t f (firsts (begF t f s)) k = o1 at *
    unfold inoS ordS
    by_cases hl : k < o1.length
    · rw [List.getElem?_range hl, List.getElem?_eq_getElem hl]
      have hc : o1[k]? = some o1[k] := List.getElem?_eq_getElem hl
      generalize o1[k] = c at *
      have hoc : (ordF t f s)[k]? = some c := by
        obtain ⟨r, hr⟩ := p1
        rw [← hr, List.getElem?_append_left hl, hc]
      have er : (leastF t f s).rows[k]? = some (rowF t f (ordF t f s) c) := by
        show ((ordF t f s).map _)[k]? = _
        rw [List.getElem?_map, hoc]
        rfl
      dsimp only
      rw [er]
      have hm : c ∈ ordF t f s := List.mem_of_getElem? hoc
      have m1 := ordK_closed ob ok hf hm true
      have m2 := ordK_closed ob ok hf hm false
      have sub : ∀ a ∈ o1, a ∈ ordF t f s := fun a h => p1.subset h
      show fstep (fstep (List.range o1.length) (idxK _ _)) (idxK _ _) = _
      rw [fstep_map (o := ordF t f s) (fun a h => by
        rcases fstep_mem.mp h with z | z
        · exact sub a z
        · rw [z]; exact m1) m2, fstep_map sub m1, map_idx oF.nd p1]
    · rw [List.getElem?_eq_none (by rw [List.length_range]; omega), List.getElem?_eq_none (by omega)]
      exact (map_idx oF.nd p1).symm
theorem leastF_inorder (ok : Tok t) (hf : Cls t f) : inoK (leastF t f s) (firsts (leastF t f s).starts) (leastF t f s).rows.length = List.range (leastF t f s).rows.length := by
  have ob : Ordl t f (firsts (begF t f s)) := ordl_firsts ok
  have oF : Ordl t f (ordF t f s) := ordF_l ok
  have er : (leastF t f s).rows.length = (ordF t f s).length := by
    show ((ordF t f s).map _).length = _
    rw [List.length_map]
  have hl := oF.len hf
  rw [er, leastF_order ok hf _ hl]
  have p := ordK_pre t f (firsts (begF t f s)) (ordF t f s).length (t.rows.length - (ordF t f s).length)
  rw [show (ordF t f s).length + (t.rows.length - (ordF t f s).length) = t.rows.length by omega] at p
  have pl : (ordK t f (firsts (begF t f s)) (ordF t f s).length).length ≤ (ordF t f s).length := p.length_le
  have e := ordK_end ob ok hf pl
  rw [e]
  rfl
theorem leastF_goW (ok : Tok t) (hf : Cls t f) : ∀ (w : List Bool) (i : Nat), i < t.rows.length → f i ∈ ordF t f s →
    goodT (leastF t f s) (goW (leastF t f s) w (idxK (ordF t f s) (f i))) = goodT t (goW t w i)
  | [], i, hi, hm => leastF_good ok hf hi hm
  | b :: w, i, hi, hm => by
    have h1 := leastF_go ok hf hi hm b
    show goodT _ (goW _ w (goT _ _ b)) = _
    rw [h1.1]
    exact leastF_goW ok hf w _ (goT_lt ok hi b) h1.2
theorem leastF_apart (ok : Tok t) (hf : Cls t f) {a b : Nat} (ha : a < (leastF t f s).rows.length) (hb : b < (leastF t f s).rows.length) (h : lang (leastF t f s) a b) : a = b := by
  have oF : Ordl t f (ordF t f s) := ordF_l ok
  have er : (leastF t f s).rows.length = (ordF t f s).length := by
    show ((ordF t f s).map _).length = _
    rw [List.length_map]
  rw [er] at ha hb
  have k : ∀ a, a < (ordF t f s).length → ∃ i, i < t.rows.length ∧ f i ∈ ordF t f s ∧ idxK (ordF t f s) (f i) = a := fun a ha => by
    obtain ⟨i, hi, e⟩ := oF.im _ (List.getElem_mem ha)
    exact ⟨i, hi, by rw [e]; exact List.getElem_mem ha, idx_at oF.nd (by rw [e]; exact List.getElem?_eq_getElem ha)⟩
  obtain ⟨i, hi, mi, rfl⟩ := k a ha
  obtain ⟨j, hj, mj, rfl⟩ := k b hb
  have : lang t i j := fun w => by
    rw [← leastF_goW (s := s) ok hf w i hi mi, ← leastF_goW (s := s) ok hf w j hj mj]
    exact h w
  rw [(hf.eq i j hi hj).mpr this]
theorem leastF_nofit (ok : Tok t) (hf : Cls t f) (hs : Sz t f s) {q : Nat} (hq : q ∈ mods) (hl : q < s) : ¬ Fits (leastF t f s) id q := fun h => by
  have sp := mods_pos hs.md
  have qp := mods_pos hq
  have sle := hs.le ok
  have qs : q ∣ s := h.dv
  refine hs.ls q hq hl ⟨Nat.dvd_trans qs hs.ft.dv, fun i hi => ?_, fun i hi => ?_, fun i hi => ?_⟩
  · have a := h.fl (i % s) (by show i % s < (t.flats.take s).length; rw [List.length_take, ok.fl]; have := Nat.mod_lt i sp.1; omega)
    have a' : (t.flats.take s)[i % s]? = (t.flats.take s)[i % s % q]? := a
    have h1 := Nat.mod_lt i sp.1
    have h2 := Nat.mod_lt i qp.1
    rw [Nat.mod_mod_of_dvd i qs, List.getElem?_take, List.getElem?_take, if_pos h1, if_pos (by omega)] at a'
    rw [hs.ft.fl i hi, a']
  · have a := h.sl (i % s) (by show i % s < (t.steeps.take s).length; rw [List.length_take, ok.sl]; have := Nat.mod_lt i sp.1; omega)
    have a' : (t.steeps.take s)[i % s]? = (t.steeps.take s)[i % s % q]? := a
    have h1 := Nat.mod_lt i sp.1
    have h2 := Nat.mod_lt i qp.1
    rw [Nat.mod_mod_of_dvd i qs, List.getElem?_take, List.getElem?_take, if_pos h1, if_pos (by omega)] at a'
    rw [hs.ft.sl i hi, a']
  · have h1 := Nat.mod_lt i sp.1
    have h2 := Nat.mod_lt i qp.1
    have lb : (begF t f s).length = s := by
      unfold begF
      rw [List.length_take, List.length_map, ok.tl]
      omega
    have a := h.bl (i % s) (by rw [List.map_id]; show i % s < ((begF t f s).map _).length; rw [List.length_map, lb]; exact h1)
    rw [List.map_id] at a
    have a' : ((begF t f s).map (idxK (ordF t f s)))[i % s]? = ((begF t f s).map (idxK (ordF t f s)))[i % s % q]? := a
    rw [Nat.mod_mod_of_dvd i qs, List.getElem?_map, List.getElem?_map] at a'
    have b1 : (begF t f s)[i % s]? = some (begF t f s)[i % s] := List.getElem?_eq_getElem (by omega)
    have b2 : (begF t f s)[i % q]? = some (begF t f s)[i % q] := List.getElem?_eq_getElem (by omega)
    rw [b1, b2, Option.map_some, Option.map_some] at a'
    have c := idx_inj (ordF_beg (List.getElem_mem (by omega))) (ordF_beg (List.getElem_mem (by omega))) (Option.some.inj a')
    have e : (begF t f s)[i % s]? = (begF t f s)[i % q]? := by rw [b1, b2, c]
    unfold begF at e
    rw [List.getElem?_take, List.getElem?_take, if_pos h1, if_pos (by omega)] at e
    rw [hs.ft.bl i hi, e]
/-- the least table of a least table is itself -/
theorem leastF_again {f' : Nat → Nat} {s' : Nat} (ok : Tok t) (hf : Cls t f) (hs : Sz t f s) (hf' : Cls (leastF t f s) f') (hs' : Sz (leastF t f s) f' s') : leastF (leastF t f s) f' s' = leastF t f s :=
  leastF_canon (leastF_ok ok hf hs) ok hf' hf hs' hs fun x y _ => leastF_has ok hf hs x y
end
/-! the ring of forty rows -/
def ringT : Tb := ⟨1, [false], [false], [0], (List.range 40).map fun k => ((k + 1) % 40, (k + 1) % 40, decide (k = 39))⟩
theorem ring_rows : ringT.rows.length = 40 := by
  show ((List.range 40).map _).length = 40
  rw [List.length_map, List.length_range]
theorem ring_at {k : Nat} (h : k < 40) : ringT.rows[k]? = some ((k + 1) % 40, (k + 1) % 40, decide (k = 39)) := by
  show ((List.range 40).map fun k => ((k + 1) % 40, (k + 1) % 40, decide (k = 39)))[k]? = _
  rw [List.getElem?_map, List.getElem?_range h]
  rfl
theorem ring_go {k : Nat} (h : k < 40) (b : Bool) : goT ringT k b = (k + 1) % 40 := by
  unfold goT
  rw [ring_at h]
  cases b <;> rfl
theorem ring_good {k : Nat} (h : k < 40) : goodT ringT k = decide (k = 39) := by
  unfold goodT
  rw [ring_at h]
theorem ring_goN : ∀ (n k : Nat), k < 40 → goW ringT (List.replicate n true) k = (k + n) % 40
  | 0, k, h => by
    show k = _
    omega
  | n + 1, k, h => by
    show goW ringT (List.replicate n true) (goT ringT k true) = _
    rw [ring_go h, ring_goN n _ (Nat.mod_lt _ (by decide))]
    omega
theorem ring_ok : Tok ringT := by
  refine ⟨.inl rfl, rfl, rfl, rfl, ?_, ?_, ?_, ?_, ?_⟩
  · rw [ring_rows]; decide
  · rw [ring_rows]; decide
  · rw [ring_rows]
    intro s hs
    rw [List.mem_singleton.mp hs]
    decide
  all_goals
    rw [ring_rows]
    intro r hr
    obtain ⟨k, hk, rfl⟩ := List.mem_map.mp hr
    exact Nat.mod_lt _ (by decide)
theorem ring_cls : Cls ringT id := by
  have ap : ∀ i j, i < 40 → j < 40 → lang ringT i j → j ≤ i := fun i j hi hj h => by
    have e := h (List.replicate (39 - i) true)
    rw [ring_goN _ _ hi, ring_goN _ _ hj, ring_good (Nat.mod_lt _ (by decide)), ring_good (Nat.mod_lt _ (by decide))] at e
    have e1 : (i + (39 - i)) % 40 = 39 := by omega
    rw [decide_eq_true e1] at e
    have := of_decide_eq_true e.symm
    omega
  refine ⟨fun i j hi hj => ⟨fun e => ?_, fun h => ?_⟩, ?_⟩
  · have e : i = j := e
    rw [e]
    exact lang_refl _ _
  · rw [ring_rows] at hi hj
    exact Nat.le_antisymm (ap j i hj hi (lang_symm h)) (ap i j hi hj h)
  · rw [ring_rows]
    intro i hi
    have : ∀ i : Fin 40, pat id 40 i.val = i.val := by decide +kernel
    exact this ⟨i, hi⟩
theorem perd_one {α : Type} (x : α) : perd [x] 1 := fun i hi => by
  have : i < 1 := hi
  rw [Nat.mod_one, show i = 0 by omega]
theorem ring_sz : Sz ringT id 1 := ⟨by decide, ⟨by decide, perd_one _, perd_one _, perd_one _⟩, fun s' hs' hl => by
  have := (mods_pos hs').1
  omega⟩
theorem ring_ord : ordF ringT id 1 = List.range 40 := by decide +kernel
theorem ring_least : leastF ringT id 1 = ringT := by
  unfold leastF
  rw [ring_ord]
  have e1 : (begF ringT id 1).map (idxK (List.range 40)) = [0] := by decide +kernel
  have e2 : (List.range 40).map (rowF ringT id (List.range 40)) = ringT.rows := by decide +kernel
  rw [e1, e2]
  rfl
theorem ring_fix {f : Nat → Nat} {s : Nat} (hf : Cls ringT f) (hs : Sz ringT f s) : leastF ringT f s = ringT :=
  (leastF_canon ring_ok ring_ok hf ring_cls hs ring_sz fun _ _ _ => rfl).trans ring_least
end Bx
-- needs least dcit firstk apart ord31
/-! a machine that reads paths, told by keys, and its table -/
namespace Bx
open PySem PySem.Spec PyProof.Rows L2
structure Mach (κ : Type) where
  m : Nat
  st : Nat → κ
  go : κ → Bool → κ
  ok : κ → Bool
  ba : Bool → Nat → Bool
section
variable {κ : Type} [DecidableEq κ]
def begM (M : Mach κ) : List κ := (List.range M.m).map M.st
def mcS (M : Mach κ) (o : List κ) (k : Nat) : List κ := match o[k]? with
  | some c => fstep (fstep o (M.go c true)) (M.go c false)
  | none => o
def mcK (M : Mach κ) (o : List κ) : Nat → List κ
  | 0 => o
  | k + 1 => mcS M (mcK M o k) k
def ordM (M : Mach κ) (N : Nat) : List κ := mcK M (firsts (begM M)) N
def rowM (M : Mach κ) (o : List κ) (c : κ) : Nat × Nat × Bool := (idxK o (M.go c true), idxK o (M.go c false), M.ok c)
def tabM (M : Mach κ) (N : Nat) : Tb := ⟨M.m, (List.range M.m).map (M.ba true), (List.range M.m).map (M.ba false), (begM M).map (idxK (ordM M N)), (ordM M N).map (rowM M (ordM M N))⟩
/-- the keys that can come: a list of them, closed -/
structure Keys (M : Mach κ) (U : List κ) : Prop where
  st : ∀ g, g < M.m → M.st g ∈ U
  go : ∀ c ∈ U, ∀ b, M.go c b ∈ U
structure OrdM (U : List κ) (o : List κ) : Prop where
  nd : o.Nodup
  lt : ∀ c ∈ o, c ∈ U
theorem OrdM.step {U o : List κ} (h : OrdM U o) {c : κ} (hc : c ∈ U) : OrdM U (fstep o c) := ⟨fstep_nodup h.nd, fun d hd => (fstep_mem.mp hd).elim (h.lt d) fun e => e ▸ hc⟩
theorem OrdM.len {U o : List κ} (h : OrdM U o) : o.length ≤ U.length := sub_len _ _ h.nd h.lt
variable {M : Mach κ} {U : List κ}
theorem OrdM.mcS {o : List κ} (h : OrdM U o) (hU : Keys M U) (k : Nat) : OrdM U (mcS M o k) := by
  unfold Bx.mcS
  cases e : o[k]? with
  | none => exact h
  | some c =>
    have hc := h.lt c (List.mem_of_getElem? e)
    exact (h.step (hU.go c hc true)).step (hU.go c hc false)
theorem OrdM.mcK {o : List κ} (h : OrdM U o) (hU : Keys M U) : ∀ k, OrdM U (mcK M o k)
  | 0 => h
  | k + 1 => (h.mcK hU k).mcS hU k
theorem mcS_pre (M : Mach κ) (o : List κ) (k : Nat) : o <+: mcS M o k := by
  unfold mcS
  split
  · exact (fstep_pre _ _).trans (fstep_pre _ _)
  · exact List.prefix_refl _
theorem mcK_pre (M : Mach κ) (o : List κ) (k : Nat) : ∀ j, mcK M o k <+: mcK M o (k + j)
  | 0 => List.prefix_refl _
  | j + 1 => (mcK_pre M o k j).trans (mcS_pre _ _ _)
theorem mcK_stop {o : List κ} {k : Nat} (h : (mcK M o k).length ≤ k) : ∀ j, mcK M o (k + j) = mcK M o k
  | 0 => rfl
  | j + 1 => by
    have ih := mcK_stop h j
    show mcS M (mcK M o (k + j)) (k + j) = _
    rw [ih]
    unfold mcS
    rw [List.getElem?_eq_none (by omega)]
theorem mcK_end {o : List κ} (h : OrdM U o) (hU : Keys M U) {k N : Nat} (hN : U.length ≤ N) (hk : (mcK M o k).length ≤ k) : mcK M o k = mcK M o N := by
  by_cases hc : k ≤ N
  · obtain ⟨j, hj⟩ : ∃ j, N = k + j := ⟨N - k, by omega⟩
    rw [hj, mcK_stop hk j]
  · have hl := (h.mcK hU N).len
    have e := mcK_stop (M := M) (o := o) (k := N) (by omega) (k - N)
    rw [show N + (k - N) = k by omega] at e
    exact e
theorem mcK_closed {o : List κ} (h : OrdM U o) (hU : Keys M U) {N : Nat} (hN : U.length ≤ N) {c : κ} (hc : c ∈ mcK M o N) (b : Bool) : M.go c b ∈ mcK M o N := by
  have hl := (h.mcK hU N).len
  obtain ⟨k, hk⟩ := List.getElem?_of_mem hc
  have hkl := (List.getElem?_eq_some_iff.mp hk).1
  obtain ⟨j, hj⟩ : ∃ j, N = k + 1 + j := ⟨N - (k + 1), by omega⟩
  have hlt : k < (mcK M o k).length := by
    by_cases z : k < (mcK M o k).length
    · exact z
    · exfalso
      have e := mcK_end h hU hN (k := k) (by omega)
      rw [← e] at hkl
      omega
  have e1 : (mcK M o k)[k]? = some c := by
    have p := mcK_pre M o k (1 + j)
    rw [show k + (1 + j) = N by omega] at p
    obtain ⟨r, hr⟩ := p
    rw [← hr, List.getElem?_append_left hlt] at hk
    exact hk
  have e2 : M.go c b ∈ mcK M o (k + 1) := by
    show _ ∈ mcS M (mcK M o k) k
    unfold mcS
    rw [e1]
    cases b
    · exact fstep_mem.mpr (.inr rfl)
    · exact fstep_mem.mpr (.inl (fstep_mem.mpr (.inr rfl)))
  have p := mcK_pre M o (k + 1) j
  rw [← hj] at p
  exact p.subset e2
/-- the followers of a key whose turn is over are there -/
theorem mcK_at {o : List κ} {n j : Nat} {c : κ} (hj : j < n) (hc : (mcK M o n)[j]? = some c) (b : Bool) : M.go c b ∈ mcK M o n := by
  have hkl := (List.getElem?_eq_some_iff.mp hc).1
  obtain ⟨d, hd⟩ : ∃ d, n = j + 1 + d := ⟨n - (j + 1), by omega⟩
  have hlt : j < (mcK M o j).length := by
    by_cases z : j < (mcK M o j).length
    · exact z
    · exfalso
      have e := mcK_stop (M := M) (o := o) (k := j) (by omega) (1 + d)
      rw [show j + (1 + d) = n by omega] at e
      rw [e] at hkl
      omega
  have e1 : (mcK M o j)[j]? = some c := by
    have p := mcK_pre M o j (1 + d)
    rw [show j + (1 + d) = n by omega] at p
    obtain ⟨r, hr⟩ := p
    rw [← hr, List.getElem?_append_left hlt] at hc
    exact hc
  have e2 : M.go c b ∈ mcK M o (j + 1) := by
    show _ ∈ mcS M (mcK M o j) j
    unfold mcS
    rw [e1]
    cases b
    · exact fstep_mem.mpr (.inr rfl)
    · exact fstep_mem.mpr (.inl (fstep_mem.mpr (.inr rfl)))
  have p := mcK_pre M o (j + 1) d
  rw [← hd] at p
  exact p.subset e2
theorem ordM_firsts (hU : Keys M U) : OrdM U (firsts (begM M)) := by
  refine ⟨firsts_nodup _ _ List.nodup_nil, fun c hc => ?_⟩
  rcases firsts_sub _ _ hc with e | e
  · exact absurd e List.not_mem_nil
  · obtain ⟨g, hg, rfl⟩ := List.mem_map.mp e
    exact hU.st g (List.mem_range.mp hg)
theorem ordM_l (hU : Keys M U) (N : Nat) : OrdM U (ordM M N) := (ordM_firsts hU).mcK hU _
theorem ordM_beg {c : κ} (N : Nat) (h : c ∈ begM M) : c ∈ ordM M N := by
  have p := mcK_pre M (firsts (begM M)) 0 N
  rw [Nat.zero_add] at p
  exact p.subset (firsts_mem h)
theorem idxM_lt {l : List κ} {c : κ} (h : c ∈ l) : idxK l c < l.length := List.idxOf_lt_length_of_mem h
theorem idxM_get {l : List κ} {c : κ} (h : c ∈ l) : l[idxK l c]? = some c := by
  have h1 := List.idxOf_lt_length_of_mem h
  unfold idxK
  rw [List.getElem?_eq_getElem h1, List.getElem_idxOf h1]
theorem idxM_pre {l m : List κ} {c : κ} (p : l <+: m) (h : c ∈ l) : idxK m c = idxK l c := by
  obtain ⟨r, rfl⟩ := p
  unfold idxK
  rw [List.idxOf_append, if_pos h]
theorem tabM_go (hU : Keys M U) {N : Nat} (hN : U.length ≤ N) {c : κ} (hm : c ∈ ordM M N) (b : Bool) : goT (tabM M N) (idxK (ordM M N) c) b = idxK (ordM M N) (M.go c b) ∧ M.go c b ∈ ordM M N := by
  refine ⟨?_, mcK_closed (ordM_firsts hU) hU hN hm b⟩
  unfold goT tabM
  dsimp only
  rw [List.getElem?_map, idxM_get hm]
  cases b <;> rfl
theorem tabM_good {N : Nat} {c : κ} (hm : c ∈ ordM M N) : goodT (tabM M N) (idxK (ordM M N) c) = M.ok c := by
  show (match (tabM M N).rows[idxK (ordM M N) c]? with | some r => r.2.2 | none => false) = _
  unfold tabM
  dsimp only
  rw [List.getElem?_map, idxM_get hm]
  rfl
theorem tabM_goW (hU : Keys M U) {N : Nat} (hN : U.length ≤ N) : ∀ (w : List Bool) (c : κ), c ∈ ordM M N → goodT (tabM M N) (goW (tabM M N) w (idxK (ordM M N) c)) = M.ok (w.foldl M.go c)
  | [], c, hm => tabM_good hm
  | b :: w, c, hm => by
    have h1 := tabM_go hU hN hm b
    show goodT _ (goW _ w (goT _ _ b)) = _
    rw [h1.1]
    exact tabM_goW hU hN w _ h1.2
theorem tabM_rows (hU : Keys M U) (N : Nat) : (tabM M N).rows.length ≤ U.length := by
  show ((ordM M N).map _).length ≤ _
  rw [List.length_map]
  exact (ordM_l hU N).len
theorem tabM_ok (hU : Keys M U) (hm : M.m = 1 ∨ M.m = 2 ∨ M.m = 3 ∨ M.m = 6) {N : Nat} (hN : U.length ≤ N) (h1 : U.length ≤ 1000) : Tok (tabM M N) := by
  have lb : (begM M).length = M.m := by
    unfold begM
    rw [List.length_map, List.length_range]
  have ol := ordM_l hU N
  have lr : (tabM M N).rows.length = (ordM M N).length := by
    show ((ordM M N).map _).length = _
    rw [List.length_map]
  refine ⟨hm, ?_, ?_, ?_, ?_, ?_, ?_, ?_, ?_⟩
  · show ((List.range _).map _).length = _
    rw [List.length_map, List.length_range]
    rfl
  · show ((List.range _).map _).length = _
    rw [List.length_map, List.length_range]
    rfl
  · show ((begM M).map _).length = _
    rw [List.length_map, lb]
    rfl
  · rw [lr]
    have h0 : 0 < (begM M).length := by omega
    exact List.length_pos_of_mem (ordM_beg N (List.getElem_mem h0))
  · rw [lr]
    exact Nat.le_trans ol.len h1
  · intro x hx
    obtain ⟨c, hc, rfl⟩ := List.mem_map.mp hx
    rw [lr]
    exact idxM_lt (ordM_beg N hc)
  · intro r hr
    obtain ⟨c, hc, rfl⟩ := List.mem_map.mp hr
    rw [lr]
    exact idxM_lt (mcK_closed (ordM_firsts hU) hU hN hc true)
  · intro r hr
    obtain ⟨c, hc, rfl⟩ := List.mem_map.mp hr
    rw [lr]
    exact idxM_lt (mcK_closed (ordM_firsts hU) hU hN hc false)
/-- what a machine tells of a pair -/
def hasM (M : Mach κ) (x y : Nat) : Bool := if y = 0 then M.ba true (Nat.gcd x y % M.m) else if x = 0 then M.ba false (Nat.gcd x y % M.m) else M.ok ((L x y).reverse.foldl M.go (M.st (Nat.gcd x y % M.m)))
theorem tabM_has (hU : Keys M U) (hm : 0 < M.m) {N : Nat} (hN : U.length ≤ N) (x y : Nat) : hasT (tabM M N) x y = hasM M x y := by
  have at_ : ∀ (f : Nat → Bool) (g : Nat), (((List.range M.m).map f)[g % M.m]?).getD false = f (g % M.m) := fun f g => by
    rw [List.getElem?_map, List.getElem?_range (Nat.mod_lt _ hm)]
    rfl
  unfold hasM
  by_cases hy : y = 0
  · rw [if_pos hy]
    unfold hasT
    rw [if_pos hy]
    exact at_ (M.ba true) _
  · by_cases hx : x = 0
    · rw [if_neg hy, if_pos hx]
      unfold hasT
      rw [if_neg hy, if_pos hx]
      exact at_ (M.ba false) _
    · rw [if_neg hy, if_neg hx, hasT_pos (by omega) (by omega)]
      generalize Nat.gcd x y = g
      have hb : (begM M)[g % M.m]? = some (M.st (g % M.m)) := by
        unfold begM
        rw [List.getElem?_map, List.getElem?_range (Nat.mod_lt _ hm)]
        rfl
      have e : begT (tabM M N) g = idxK (ordM M N) (M.st (g % M.m)) := by
        show (((begM M).map (idxK (ordM M N)))[g % M.m]?).getD 0 = _
        rw [List.getElem?_map, hb]
        rfl
      show goodT (tabM M N) (goW (tabM M N) (L x y).reverse (begT (tabM M N) g)) = _
      rw [e]
      exact tabM_goW hU hN _ _ (ordM_beg N (List.mem_of_getElem? hb))
end
end Bx
-- needs mach bottoms signs deepI pairs
/-! the machine of the pairs with one path -/
namespace Bx
open PySem PySem.Spec PyProof.Rows L2
/-- all but the object at a is as it was -/
def Off (a : Addr) (H H' : Hp) : Prop := ∀ b o, b ≠ a → H b = some o → H' b = some o
theorem Off.of {a : Addr} {H H' : Hp} (e : Same H H') : Off a H H' := fun b o _ h => e b o h
theorem Off.trans {a : Addr} {H H1 H2 : Hp} (x : Off a H H1) (y : Off a H1 H2) : Off a H H2 := fun b o n h => y b o n (x b o n h)
theorem Off.put {a : Addr} {H H' : Hp} {o : HO} (e : Off a H H') : Off a H (L2.upd H' a o) := fun b u n h => by rw [upd_ne n]; exact e b u n h
/-- an object that H does not know -/
theorem Off.same {a : Addr} {H0 H H' : Hp} (e : Same H0 H) (ha : H0 a = none) (x : Off a H H') : Same H0 H' := fun b o h => x b o (ne_of_none h ha) (e b o h)
theorem PairAt.sameI {K : PySem.W.Frag} {H H' : Hp} {v : V} {x y : Nat} (h : PairAt K H v x y) (e : SameI H H') : PairAt K H' v x y := by
  obtain ⟨a, ev, hs⟩ := h
  exact ⟨a, ev, e.seqT hs⟩
def kinFs (x y : Nat) : List (Str × V) := [("rest", .int ((Nat.gcd x y % 6 : Nat) : Int)), ("base_here", .str (bot x y)), ("signs", .str (sgn (L x y).reverse)), ("cycle", .int 6)]
def kinM (x y : Nat) : Mach Int where
  m := 6
  st r := if r = Nat.gcd x y % 6 ∧ bot x y = "even" then 0 else -1
  go c b := if 0 ≤ c ∧ (L x y).reverse[c.toNat]? = some b then c + 1 else -1
  ok c := decide (c = ((L x y).length : Int))
  ba f r := decide (bot x y = if f then ("flat" : Str) else ("steep" : Str)) && decide (r = Nat.gcd x y % 6)
def kinU (x y : Nat) : List Int := -1 :: (List.range ((L x y).length + 1)).map fun n : Nat => (n : Int)
theorem kinU_len (x y : Nat) : (kinU x y).length = (L x y).length + 2 := by
  unfold kinU
  rw [List.length_cons, List.length_map, List.length_range]
theorem kinU_mem {x y : Nat} {c : Int} : c ∈ kinU x y ↔ c = -1 ∨ 0 ≤ c ∧ c ≤ (L x y).length := by
  unfold kinU
  rw [List.mem_cons, List.mem_map]
  constructor
  · rintro (h | ⟨n, hn, rfl⟩)
    · exact .inl h
    · have := List.mem_range.mp hn
      exact .inr ⟨by omega, by omega⟩
  · rintro (h | ⟨h1, h2⟩)
    · exact .inl h
    · exact .inr ⟨c.toNat, List.mem_range.mpr (by omega), by omega⟩
theorem kinM_go (x y : Nat) (c : Int) (b : Bool) : (kinM x y).go c b = if 0 ≤ c ∧ (L x y).reverse[c.toNat]? = some b then c + 1 else -1 := rfl
theorem kin_keys (x y : Nat) : Keys (kinM x y) (kinU x y) := by
  refine ⟨fun g _ => ?_, fun c hc b => ?_⟩
  · show (if _ then (0 : Int) else -1) ∈ _
    rw [kinU_mem]
    split
    · exact .inr ⟨by decide, by omega⟩
    · exact .inl rfl
  · rw [kinM_go, kinU_mem]
    split
    · rename_i h
      have h1 := h.1
      have := (List.getElem?_eq_some_iff.mp h.2).1
      rw [List.length_reverse] at this
      exact .inr ⟨by omega, by omega⟩
    · exact .inl rfl
theorem kin_fold_neg (x y : Nat) : ∀ w : List Bool, w.foldl (kinM x y).go (-1) = -1
  | [] => rfl
  | b :: w => by
    have e : (kinM x y).go (-1) b = -1 := by rw [kinM_go, if_neg fun h => absurd h.1 (by decide)]
    rw [List.foldl_cons, e]
    exact kin_fold_neg x y w
/-- behind k letters of the word: the rest must be as it is written -/
theorem kin_fold (x y : Nat) : ∀ (w : List Bool) (k : Nat), k ≤ (L x y).length → ((kinM x y).ok (w.foldl (kinM x y).go (k : Int)) = true ↔ w = (L x y).reverse.drop k)
  | [], k, hk => by
    show decide ((k : Int) = ((L x y).length : Int)) = true ↔ _
    rw [decide_eq_true_iff]
    constructor
    · intro h
      rw [List.drop_eq_nil_of_le (by rw [List.length_reverse]; omega)]
    · intro h
      have := congrArg List.length h
      rw [List.length_drop, List.length_reverse] at this
      have : 0 = (L x y).length - k := this
      omega
  | b :: w, k, hk => by
    rw [List.foldl_cons]
    by_cases h : (L x y).reverse[k]? = some b
    · have e : (kinM x y).go (k : Int) b = ((k + 1 : Nat) : Int) := by
        show (if 0 ≤ (k : Int) ∧ (L x y).reverse[(k : Int).toNat]? = some b then (k : Int) + 1 else -1) = _
        rw [if_pos ⟨by omega, by rw [Int.toNat_natCast]; exact h⟩]
        rfl
      have hl := (List.getElem?_eq_some_iff.mp h).1
      have hv := (List.getElem?_eq_some_iff.mp h).2
      have hl2 := hl
      rw [List.length_reverse] at hl2
      rw [e, kin_fold x y w (k + 1) (by omega), List.drop_eq_getElem_cons hl, hv]
      exact ⟨fun z => by rw [z], fun z => (List.cons.inj z).2⟩
    · have e : (kinM x y).go (k : Int) b = -1 := by rw [kinM_go, if_neg fun z => h (by rw [Int.toNat_natCast] at z; exact z.2)]
      rw [e, kin_fold_neg]
      constructor
      · intro z
        have : (-1 : Int) = ((L x y).length : Int) := of_decide_eq_true z
        omega
      · intro z
        exfalso
        refine h ?_
        have : (L x y).reverse[k]? = ((L x y).reverse.drop k)[0]? := by rw [List.getElem?_drop]; rfl
        rw [this, ← z]
        rfl
/-- the kin of a pair: the same path, the divisor with the same rest -/
theorem kin_has (x y u v : Nat) : hasM (kinM x y) u v = true ↔ Nat.gcd u v % 6 = Nat.gcd x y % 6 ∧ bot u v = bot x y ∧ (bot u v = "even" → L u v = L x y) := by
  have mm : ∀ z : Nat, Nat.gcd u v % 6 % 6 = Nat.gcd u v % 6 := fun _ => Nat.mod_mod _ _
  have d1 : ("flat" : Str) ≠ "even" := by decide +kernel
  have d2 : ("steep" : Str) ≠ "even" := by decide +kernel
  unfold hasM
  by_cases hv : v = 0
  · rw [if_pos hv]
    have eb : bot u v = "flat" := if_pos hv
    show (decide (bot x y = "flat") && decide (Nat.gcd u v % 6 = Nat.gcd x y % 6)) = true ↔ _
    rw [Bool.and_eq_true, decide_eq_true_iff, decide_eq_true_iff, eb]
    exact ⟨fun h => ⟨h.2, h.1.symm, fun z => absurd z d1⟩, fun h => ⟨h.2.1.symm, h.1⟩⟩
  · by_cases hu : u = 0
    · rw [if_neg hv, if_pos hu]
      have eb : bot u v = "steep" := by unfold bot; rw [if_neg hv, if_pos hu]
      show (decide (bot x y = "steep") && decide (Nat.gcd u v % 6 = Nat.gcd x y % 6)) = true ↔ _
      rw [Bool.and_eq_true, decide_eq_true_iff, decide_eq_true_iff, eb]
      exact ⟨fun h => ⟨h.2, h.1.symm, fun z => absurd z d2⟩, fun h => ⟨h.2.1.symm, h.1⟩⟩
    · rw [if_neg hv, if_neg hu]
      have eb : bot u v = "even" := by unfold bot; rw [if_neg hv, if_neg hu]
      show (kinM x y).ok ((L u v).reverse.foldl (kinM x y).go (if Nat.gcd u v % 6 = Nat.gcd x y % 6 ∧ bot x y = "even" then 0 else -1)) = true ↔ _
      rw [eb]
      by_cases c : Nat.gcd u v % 6 = Nat.gcd x y % 6 ∧ bot x y = "even"
      · rw [if_pos c]
        have h := kin_fold x y (L u v).reverse 0 (Nat.zero_le _)
        rw [List.drop_zero] at h
        refine h.trans ⟨fun z => ⟨c.1, c.2.symm, fun _ => List.reverse_inj.mp z⟩, fun z => by rw [z.2.2 rfl]⟩
      · rw [if_neg c, kin_fold_neg]
        constructor
        · intro z
          have : (-1 : Int) = ((L x y).length : Int) := of_decide_eq_true z
          omega
        · intro z
          exact absurd ⟨z.1, z.2.1.symm⟩ c
end Bx
-- needs runner clsrules kin progat
/-! a runner in the heap -/
namespace Bx
open PySem PySem.Spec PyProof.Rows L2
/-- all but two objects stay -/
def MvR (a p : Addr) (H H' : Hp) : Prop := ∀ c o, c ≠ a → c ≠ p → H c = some o → H' c = some o
theorem MvR.refl (a p : Addr) (H : Hp) : MvR a p H H := fun _ _ _ _ h => h
theorem MvR.trans {a p : Addr} {H H1 H2 : Hp} (x : MvR a p H H1) (y : MvR a p H1 H2) : MvR a p H H2 := fun c o n1 n2 h => y c o n1 n2 (x c o n1 n2 h)
theorem MvR.of {a p : Addr} {H H' : Hp} (e : Same H H') : MvR a p H H' := fun c o _ _ h => e c o h
theorem MvR.putA {a p : Addr} {H H' : Hp} {o : HO} (e : MvR a p H H') : MvR a p H (L2.upd H' a o) := fun c u n1 n2 h => by rw [upd_ne n1]; exact e c u n1 n2 h
theorem MvR.putP {a p : Addr} {H H' : Hp} {o : HO} (e : MvR a p H H') : MvR a p H (L2.upd H' p o) := fun c u n1 n2 h => by rw [upd_ne n2]; exact e c u n1 n2 h
theorem MvR.tupX {a p : Addr} {H H' : Hp} {C dx : Addr} {fs : List (Str × V)} {xs : List V} (e : MvR a p H H') (h1 : H a = some (.ins C dx fs)) (h2 : H p = some (.lst xs)) : TupX H H' := fun c o h t => by
  refine e c o (fun z => ?_) (fun z => ?_) h
  · rw [z, h1] at h; cases h; exact t
  · rw [z, h2] at h; cases h; exact t
/-- a runner: where its state stands, how many steps lie behind it -/
structure RunAt (K : PySem.W.Frag) (H : Hp) (a pl rl : Addr) (us : List V) (s : RSt) (n : Nat) : Prop where
  ex : ∃ dx src v ps, H a = some (.ins (He.ga K "Runner") dx [("source", src), ("rows", .ref rl), ("state", v), ("past", .ref pl)]) ∧ Dp K H v s.d ∧ H pl = some (.lst ps) ∧ ps.length = n
  rows : H rl = some (.lst us)
  ne : rl ≠ pl
theorem RunAt.same {K : PySem.W.Frag} {H H' : Hp} {a pl rl : Addr} {us : List V} {s : RSt} {n : Nat} (e : Same H H') (h : RunAt K H a pl rl us s n) : RunAt K H' a pl rl us s n := by
  obtain ⟨dx, src, v, ps, h1, h2, h3, h4⟩ := h.ex
  exact ⟨⟨dx, src, v, ps, e _ _ h1, Dp.same e h2, e _ _ h3, h4⟩, e _ _ h.rows, h.ne⟩
theorem RunAt.ins {K : PySem.W.Frag} {H : Hp} {a pl rl : Addr} {us : List V} {s : RSt} {n : Nat} (h : RunAt K H a pl rl us s n) : ∃ dx fs, H a = some (.ins (He.ga K "Runner") dx fs) := by
  obtain ⟨dx, src, v, ps, h1, _⟩ := h.ex
  exact ⟨dx, _, h1⟩
theorem RunAt.tupX {K : PySem.W.Frag} {H H' : Hp} {a pl rl : Addr} {us : List V} {s : RSt} {n : Nat} (h : RunAt K H a pl rl us s n) (e : MvR a pl H H') : TupX H H' := by
  obtain ⟨dx, src, v, ps, h1, h2, h3, h4⟩ := h.ex
  exact e.tupX h1 h3
/-- the bag drawn from -/
theorem RunAt.kp {K : PySem.W.Frag} {H H' : Hp} {b a pl rl : Addr} {us : List V} {s : RSt} {n : Nat} (B : Bag H b) (e : Kp b H H') (n1 : pl ≠ b) (n2 : rl ≠ b) (h : RunAt K H a pl rl us s n) : RunAt K H' a pl rl us s n := by
  obtain ⟨dx, src, v, ps, h1, h2, h3, h4⟩ := h.ex
  have st := B.sameT e
  exact ⟨⟨dx, src, v, ps, st _ _ h1 (fun _ z => by cases z), Dp.sameT st s.nl h2, e.kp _ _ n1 h3, h4⟩, e.kp _ _ n2 h.rows, h.ne⟩
/-- an object beside a program changes -/
theorem ProgAt.put {K : PySem.W.Frag} {H : Hp} {p a C dx : Addr} {fs : List (Str × V)} {o : HO} {us : List V} {ls : List Lin} (hA : H a = some (.ins C dx fs)) (n : p ≠ a) (h : ProgAt K H p us ls) : ProgAt K (L2.upd H a o) p us ls := by
  obtain ⟨d, rp, h1, h2, h3⟩ := h.ex
  have e : SameI H (L2.upd H a o) := .put hA
  have t : TupX H (L2.upd H a o) := .put hA id
  exact ⟨⟨d, rp, by rw [upd_ne n]; exact h1, e _ _ h2 (fun _ _ _ z => by cases z), e.seqT h3⟩, Dp.tupXs t (lin_nls ls) h.dp, h.ok, h.l0, h.l1⟩
end Bx
-- needs runat
/-! a runner in the heap with all that lies behind it; C its class, more: further fields -/
namespace Bx
open PySem PySem.Spec PyProof.Rows L2
structure RCls (K : PySem.W.Frag) (C : Addr) : Prop where
  cls : L2.Cls K C
  n1 : NoAttr K C "source"
  n2 : NoAttr K C "rows"
  n3 : NoAttr K C "state"
  n4 : NoAttr K C "past"
structure RunP (K : PySem.W.Frag) (C : Addr) (more : List (Str × V)) (H : Hp) (a pl rl p : Addr) (us : List V) (ls : List Lin) (s : RSt) (hs : List RSt) : Prop where
  rc : RCls K C
  ex : ∃ dx v ps, H a = some (.ins C dx (("source", .ref p) :: ("rows", .ref rl) :: ("state", v) :: ("past", .ref pl) :: more)) ∧ Dp K H v s.d ∧ H pl = some (.lst ps) ∧ DpAll K H ps (hs.map RSt.d)
  rows : H rl = some (.lst us)
  ne : rl ≠ pl
  prog : ProgAt K H p us ls
  ml : more.length ≤ 10
section
variable {K : PySem.W.Frag} {C : Addr} {more : List (Str × V)} {H H' : Hp} {a pl rl p : Addr} {us : List V} {ls : List Lin} {s : RSt} {hs : List RSt}
theorem RunP.same (e : Same H H') (h : RunP K C more H a pl rl p us ls s hs) : RunP K C more H' a pl rl p us ls s hs := by
  obtain ⟨dx, v, ps, h1, h2, h3, h4⟩ := h.ex
  exact ⟨h.rc, ⟨dx, v, ps, e _ _ h1, Dp.same e h2, e _ _ h3, Dp.sameAll e h4⟩, e _ _ h.rows, h.ne, h.prog.same e, h.ml⟩
theorem RunP.kp {b : Addr} (B : Bag H b) (e : Kp b H H') (n1 : pl ≠ b) (n2 : rl ≠ b) (h : RunP K C more H a pl rl p us ls s hs) : RunP K C more H' a pl rl p us ls s hs := by
  obtain ⟨dx, v, ps, h1, h2, h3, h4⟩ := h.ex
  have st := B.sameT e
  exact ⟨h.rc, ⟨dx, v, ps, st _ _ h1 (fun _ z => by cases z), Dp.sameT st s.nl h2, e.kp _ _ n1 h3, Dp.sameTs st (rst_nls hs) h4⟩, e.kp _ _ n2 h.rows, h.ne, h.prog.sameT st, h.ml⟩
theorem RunP.ins (h : RunP K C more H a pl rl p us ls s hs) : ∃ dx fs, H a = some (.ins C dx fs) := by
  obtain ⟨dx, v, ps, h1, _⟩ := h.ex
  exact ⟨dx, _, h1⟩
theorem RunP.tupX (h : RunP K C more H a pl rl p us ls s hs) (e : MvR a pl H H') : TupX H H' := by
  obtain ⟨dx, v, ps, h1, h2, h3, h4⟩ := h.ex
  exact e.tupX h1 h3
theorem RunP.np (h : RunP K C more H a pl rl p us ls s hs) : p ≠ a ∧ p ≠ pl ∧ a ≠ pl ∧ rl ≠ a := by
  obtain ⟨dx, v, ps, h1, h2, h3, h4⟩ := h.ex
  obtain ⟨d, rp, g1, g2, g3⟩ := h.prog.ex
  refine ⟨fun z => ?_, fun z => ?_, fun z => ?_, fun z => ?_⟩
  · rw [z, h1] at g1
    have q := congrArg (fun o : Option HO => match o with | some (HO.ins _ _ fs) => fs.length | _ => 0) g1
    have q : more.length + 4 = 1 := q
    omega
  · rw [z, h3] at g1; cases g1
  · rw [z, h3] at h1; cases h1
  · rw [← z, h.rows] at h1; cases h1
/-- the program stays where a runner moves -/
theorem ProgAt.mvR {q : Addr} {fs : List (Str × V)} {D dx : Addr} {ps : List V} {p : Addr} {us : List V} {ls : List Lin} (e : MvR a q H H') (h1 : H a = some (.ins D dx fs)) (h3 : H q = some (.lst ps)) (n : p ≠ a) (h : ProgAt K H p us ls) : ProgAt K H' p us ls := by
  obtain ⟨d, rp, g1, g2, g3⟩ := h.ex
  have t : TupX H H' := e.tupX h1 h3
  exact ⟨⟨d, rp, e _ _ n (fun z => by rw [z, h3] at g1; cases g1) g1, e _ _ (fun z => by rw [z, h1] at g2; cases g2) (fun z => by rw [z, h3] at g2; cases g2) g2, t.seqT g3⟩, Dp.tupXs t (lin_nls ls) h.dp, h.ok, h.l0, h.l1⟩
/-- another runner moves -/
theorem RunP.mvR {a' q' : Addr} {D dx' : Addr} {fs : List (Str × V)} {ps' : List V} (e : MvR a' q' H H') (h1' : H a' = some (.ins D dx' fs)) (h3' : H q' = some (.lst ps')) (n1 : a ≠ a') (n2 : pl ≠ q') (n3 : rl ≠ q') (n4 : p ≠ a') (h : RunP K C more H a pl rl p us ls s hs) : RunP K C more H' a pl rl p us ls s hs := by
  obtain ⟨dx, v, ps, h1, h2, h3, h4⟩ := h.ex
  have t : TupX H H' := e.tupX h1' h3'
  refine ⟨h.rc, ⟨dx, v, ps, e _ _ n1 (fun z => by rw [z, h3'] at h1; cases h1) h1, Dp.tupX t s.nl h2, e _ _ (fun z => by rw [z, h1'] at h3; cases h3) n2 h3, Dp.tupXs t (rst_nls hs) h4⟩, ?_, h.ne, h.prog.mvR e h1' h3' n4, h.ml⟩
  have hr := h.rows
  exact e _ _ (fun z => by rw [z, h1'] at hr; cases hr) n3 hr
theorem RunP.at (h : RunP K (He.ga K "Runner") [] H a pl rl p us ls s hs) : RunAt K H a pl rl us s hs.length := by
  obtain ⟨dx, v, ps, h1, h2, h3, h4⟩ := h.ex
  have := DpAll.length h4
  rw [List.length_map] at this
  exact ⟨⟨dx, .ref p, v, ps, h1, h2, h3, this⟩, h.rows, h.ne⟩
end
/-- a runner of the class C, wherever its parts lie -/
def RunX (K : PySem.W.Frag) (C : Addr) (H : Hp) (a : Addr) (s : RSt) (hs : List RSt) : Prop := ∃ more pl rl p us ls, RunP K C more H a pl rl p us ls s hs
end Bx
/-! a[i] += e, a a list: the reading of the place -/
namespace Bx
open PySem PySem.Spec PyProof.Rows L2
def tGetL (K : PySem.W.Frag) : V → V → Hp → VK → Prop := fun x y H Q => ∃ p xs j v, x = .ref p ∧ y = .int (j : Nat) ∧ SqL K H p xs ∧ xs[j]? = some v ∧ Q v H
theorem get_list {X : Cx} : PGet X (tGetL X.K) := by
  intro pins s σ H o i ov iv Q I ro ri h
  obtain ⟨p, xs, j, v, rfl, rfl, hq, hj, q⟩ := h
  cases ro
  obtain ⟨t, rfl⟩ := ri
  obtain ⟨its, r, pl, hz⟩ := I.list hq
  obtain ⟨w, ew, rw'⟩ := r.get hj
  have hl := r.length
  have hn := line63
  have hjl : j < xs.length := (List.getElem?_eq_some_iff.mp hj).1
  refine wpAny_getItem_list (Q := fun r s' => EP X pins σ Q r s') pl.isList (by omega) (by omega) (by simpa using ew) ⟨v, H, I, rw', q⟩
end Bx
-- needs deep bag
-- imports HandS.Lambda
/-! what stays where a lambda is made: all but the tables of code objects -/
namespace Bx
open PySem PySem.Spec PyProof.Rows L2 LamX
theorem extN_same {H H' : Hp} (e : Same H H') : ExtN H H' := fun b o h _ => e b o h
theorem seqT_extN {K : PySem.W.Frag} {H H' : Hp} {a : Addr} {xs : List V} (e : ExtN H H') (h : SqT K H a xs) : SqT K H' a xs := by
  rcases h with (h | ⟨o, h⟩) | h
  · exact .inl (.inl (e _ _ h fun _ z => by cases z))
  · exact .inl (.inr ⟨o, e _ _ h fun _ z => by cases z⟩)
  · exact .inr h
theorem Dp.extN {K : PySem.W.Frag} {H H' : Hp} (e : ExtN H H') : ∀ {d : PyData} {v : V}, noL d = true → Dp K H v d → Dp K H' v d
  | _, _, _, .non => .non
  | _, _, _, .bl b => .bl b
  | _, _, _, .int i => .int i
  | _, _, _, .str x => .str x
  | _, _, n, .lst _ _ => by cases n
  | .tuple ds, _, n, .tup h1 h2 => .tup (seqT_extN e h1) (go (by rw [noL] at n; exact n) h2)
where go : ∀ {ds : List PyData} {vs : List V}, noLs ds = true → DpAll K H vs ds → DpAll K H' vs ds
  | _, _, _, .nil => .nil
  | d :: ds, _, n, .cons h t => by
    rw [noLs, Bool.and_eq_true] at n
    exact .cons (Dp.extN e n.1 h) (go n.2 t)
theorem Bag.extN {H H' : Hp} {b : Addr} (B : Bag H b) (e : ExtN H H') : Bag H' b := by
  obtain ⟨c, xs, i, hold, seed, h1, h2, r⟩ := B.ex
  exact ⟨c, xs, i, hold, seed, e _ _ h1 (fun _ z => by cases z), e _ _ h2 (fun _ z => by cases z), r⟩
theorem tabs_sameT {T : List (Addr × Str)} {H H' : Hp} (e : SameT H H') (t : Tabs T H) : Tabs T H' := fun p hp => by
  obtain ⟨ps, h1, h2, h3⟩ := t p hp
  refine ⟨ps, e _ _ h1 (fun _ z => by cases z), h2, fun pos cv hc => ?_⟩
  obtain ⟨c, e1, e2⟩ := h3 pos cv hc
  exact ⟨c, e1, e _ _ e2 fun ys z => by unfold CodeO at z; cases z⟩
theorem tabs_one {P : Addr} {q : Str} {H : Hp} (h : H P = some (.tbl #[])) : Tabs [(P, q)] H := fun p hp => by
  rw [List.mem_singleton.mp hp]
  exact TabS.nil h
end Bx
-- needs runp augIx lamlaw
/-! a run that counts its lines -/
namespace Bx
open PySem PySem.Spec PyProof.Rows L2
/-- how often each line was carried out -/
def cntL (n : Nat) (hs : List RSt) : List Nat := (List.range n).map fun i => hs.countP fun t => t.at_ == i
structure CouP (K : PySem.W.Frag) (C : Addr) (H : Hp) (a pl rl p dl : Addr) (us : List V) (ls : List Lin) (s : RSt) (hs : List RSt) : Prop where
  run : RunP K C [("done", .ref dl)] H a pl rl p us ls s hs
  nd : NoAttr K C "done"
  don : H dl = some (.lst ((cntL ls.length hs).map fun n : Nat => V.int (n : Int)))
  np : dl ≠ pl
  nr : dl ≠ rl
theorem cntL_nil (n : Nat) : cntL n [] = List.replicate n 0 := by
  unfold cntL
  apply List.ext_getElem
  · simp
  · intro i h1 h2
    simp
theorem cntL_get {n i : Nat} (hs : List RSt) (h : i < n) : (cntL n hs)[i]? = some (hs.countP fun t => t.at_ == i) := by
  unfold cntL
  rw [List.getElem?_map, List.getElem?_range h]
  rfl
theorem cntL_snoc {n : Nat} (hs : List RSt) (s : RSt) : cntL n (hs ++ [s]) = (cntL n hs).set s.at_ ((hs.countP fun t => t.at_ == s.at_) + 1) := by
  unfold cntL
  apply List.ext_getElem
  · simp
  · intro i h1 h2
    rw [List.getElem_set]
    by_cases c : s.at_ = i
    · rw [if_pos c]
      simp [List.countP_append, c]
    · rw [if_neg c]
      simp [List.countP_append, c]
theorem cntL_pop {n : Nat} (hs : List RSt) (s : RSt) (h : s.at_ < n) : (cntL n (hs ++ [s])).set s.at_ (hs.countP fun t => t.at_ == s.at_) = cntL n hs := by
  rw [cntL_snoc, List.set_set]
  have hl : s.at_ < (cntL n hs).length := by
    unfold cntL
    simpa using h
  have hv : (cntL n hs)[s.at_] = hs.countP fun t => t.at_ == s.at_ := Option.some.inj ((List.getElem?_eq_getElem hl).symm.trans (cntL_get hs h))
  rw [← hv]
  exact List.set_getElem_self hl
/-- all but three objects stay -/
def MvC (a p d : Addr) (H H' : Hp) : Prop := ∀ c o, c ≠ a → c ≠ p → c ≠ d → H c = some o → H' c = some o
theorem cntL_len (n : Nat) (hs : List RSt) : (cntL n hs).length = n := by
  unfold cntL
  simp
section
variable {K : PySem.W.Frag} {C : Addr} {H H' : Hp} {a pl rl p dl : Addr} {us : List V} {ls : List Lin} {s : RSt} {hs : List RSt}
theorem CouP.same (e : Same H H') (h : CouP K C H a pl rl p dl us ls s hs) : CouP K C H' a pl rl p dl us ls s hs := ⟨h.run.same e, h.nd, e _ _ h.don, h.np, h.nr⟩
theorem CouP.kp {b : Addr} (B : Bag H b) (e : Kp b H H') (n1 : pl ≠ b) (n2 : rl ≠ b) (n3 : dl ≠ b) (h : CouP K C H a pl rl p dl us ls s hs) : CouP K C H' a pl rl p dl us ls s hs := ⟨h.run.kp B e n1 n2, h.nd, e.kp _ _ n3 h.don, h.np, h.nr⟩
/-- the list of counts is written -/
theorem RunP.put {o : List V} {d : Addr} {more : List (Str × V)} {xs : List V} (hd : H d = some (.lst xs)) (n1 : d ≠ pl) (n2 : d ≠ rl) (h : RunP K C more H a pl rl p us ls s hs) : RunP K C more (L2.upd H d (.lst o)) a pl rl p us ls s hs := by
  obtain ⟨dx, v, ps, h1, h2, h3, h4⟩ := h.ex
  have t : TupX H (L2.upd H d (.lst o)) := .putL hd
  have nda : d ≠ a := fun z => by rw [z, h1] at hd; cases hd
  obtain ⟨dp, rp, g1, g2, g3⟩ := h.prog.ex
  have ndp : d ≠ p := fun z => by rw [z, g1] at hd; cases hd
  have ndd : d ≠ dp := fun z => by rw [z, g2] at hd; cases hd
  exact ⟨h.rc, ⟨dx, v, ps, by rw [upd_ne nda.symm]; exact h1, Dp.tupX t s.nl h2, by rw [upd_ne n1.symm]; exact h3, Dp.tupXs t (rst_nls hs) h4⟩, by rw [upd_ne n2.symm]; exact h.rows, h.ne,
    ⟨⟨dp, rp, by rw [upd_ne ndp.symm]; exact g1, by rw [upd_ne ndd.symm]; exact g2, t.seqT g3⟩, Dp.tupXs t (lin_nls ls) h.prog.dp, h.prog.ok, h.prog.l0, h.prog.l1⟩, h.ml⟩
theorem CouP.nda (h : CouP K C H a pl rl p dl us ls s hs) : dl ≠ a := fun z => by
  obtain ⟨dx, v, ps, h1, _⟩ := h.run.ex
  have := h.don
  rw [z, h1] at this
  cases this
end
end Bx
-- imports HandS.Star PyProof.WalksMore PyProof.CollectIter PyProof.TupleIter HandS.ClsMeth HandS.HeadNt
/-! a, *b = a tuple -/
namespace Bx
open PySem PySem.Spec PyProof.Rows L2
section
variable {prog : Program} {w : World} {A : Around} {E : Value → Shared → Prop} {s : Shared}
theorem walks_tupFrom (hh : A.handled = none) (I ax : Addr) (hne : ax ≠ I) (items : Array Value) (k : Nat) (hk : k ≤ items.size) :
    Walks prog w A I [I, ax] [I] (items.size - k) (fun i v => items[k + i]? = some v) (fun i h => h.IsTupleIter I ax (k + i) ∧ h.IsTuple ax items) where
  sub := fun b hb => by simp at hb; simp [hb]
  frame := fun _ _ _ st hk => ⟨st.1.at fun o e => hk I (by simp) o e, st.2.at fun o e => hk ax (by simp) o e⟩
  item := fun i s Q E hi st hQ => by
    have hki : k + i < items.size := by omega
    refine wpAny_pyNext_tuple_item st.1 st.2 (x := items[k + i]) (by simp [hki]) fun h' hit' hs' => ?_
    exact hQ _ h' s.toks (by simp [hki]) ⟨hit', st.2.extBut hs'.extBut hne⟩ fun b o hb e => hs'.extBut b o (fun h => hb (by simp [h])) e
  done := fun s Q E st hQ => by
    refine wpAny_pyNext_tuple_end hh st.1 st.2 ?_ fun h' he' => hQ h' s.toks fun b o hb e => he' b o (fun h => hb (by simp [h])) e
    rw [show k + (items.size - k) = items.size by omega]
    simp
  self := fun _ _ _ _ st hQ => wpAny_pyIter_tupleiter st.1 hQ
theorem unpackItems_star1 {t : Addr} {items : Array Value} {x : Value} {xs : List Value} {Q : List Value → Shared → Prop} (hh : A.handled = none) (ht : s.heap.IsTuple t items) (hi : items.toList = x :: xs) (hz : items.size ≤ sizeLine)
    (hQ : ∀ (h' : Heap) (tk : Nat), (∀ b o, s.heap.get? b = some o → h'.get? b = some o) → s.toks ≤ tk → Q [x, .ref h'.objs.size] { s with heap := h'.push { cls := .type "list", data := .seq xs.toArray }, toks := tk }) :
    wpAny (model prog w) A (unpackItems (.ref t) 2 (some 1)) Q E s := by
  have hlt : t ≠ s.heap.objs.size := by obtain ⟨o, ho, _⟩ := ht; exact Nat.ne_of_lt (Heap.lt_size ho)
  have hsz : items.size = xs.length + 1 := by rw [← Array.length_toList, hi]; rfl
  unfold unpackItems
  refine wpAny_bind ?_
  unfold notIterableAtAll
  refine wpAny_bind (wpAny_specialOf ht.typeIs F.slot_tuple_iter.lookup ?_)
  refine wpAny_pure ?_
  simp only [Bool.false_eq_true, if_false]
  refine wpAny_bind (wpAny_holding (wpAny_pyIter_tuple ht ?_))
  refine wpAny_bind (wpAny_holding (wpAny_draw_tuple hlt 1 0 _ _ ⟨_, Heap.get?_push_size _ rfl, rfl, rfl⟩ (ht.push _) (by omega) fun h₁ hit₁ hs₁ => ?_))
  have hall : List.take 1 (List.drop 0 items.toList) = [x] := by rw [hi]; rfl
  rw [hall]
  rw [if_neg (by simp)]
  have ht₁ : h₁.IsTuple t items := (ht.push _).extBut hs₁.extBut hlt
  have hsize : s.heap.objs.size < h₁.objs.size := by
    obtain ⟨o, ho, _⟩ := hit₁
    exact Heap.lt_size ho
  obtain ⟨ot, hot, _⟩ := id ht₁
  refine wpAny_bind (wpAny_holding (wpAny_collect_iter (T := "tuple_iterator") (.inr (.inr (.inr rfl)))
    (walks_tupFrom (A := A.in1) hh s.heap.objs.size t hlt items 1 (by omega)).toS (fun _ _ st => let ⟨o, ho, hc, _⟩ := st.1; ⟨o, ho, hc⟩) ⟨hit₁, ht₁⟩ (fun b hb => ?_) (by simp) (fun s' acc hm hacc => ?_) (by omega)))
  · rcases List.mem_cons.mp hb with rfl | hb
    · exact hsize
    · rw [List.mem_singleton.mp hb]
      exact Heap.lt_size hot
  have ha : acc.toList = xs := by
    refine List.ext_getElem? fun j => ?_
    have h1 := hacc.1
    have e2 : xs[j]? = items[1 + j]? := by
      rw [← Array.getElem?_toList, hi, Nat.add_comm, List.getElem?_cons_succ]
    by_cases hj : j < acc.size
    · have e1 : acc.toList[j]? = some acc[j] := by simp [hj]
      have h2 := hacc.2 j acc[j] (by simp [hj])
      rw [e1, e2]
      exact h2.symm
    · rw [List.getElem?_eq_none (by simp; omega), e2, Array.getElem?_eq_none (by omega)]
  rw [ha]
  simp only [Nat.sub_self, Nat.not_lt_zero, if_false, Nat.sub_zero, List.take_length, List.drop_length, List.append_nil]
  have es : s' = { s with heap := s'.heap, toks := s'.toks } := by
    have g := hm.gens
    have d := hm.drawn
    have o := hm.os
    cases s'
    cases s
    simp_all
  refine wpAny_bind (wpAny_newList ?_ (by omega))
  refine wpAny_pure ?_
  have key := hQ s'.heap s'.toks (fun b o e => hm.heap b o (fun hb => ?_) (hs₁.extBut b o (fun h => ?_) (Heap.get?_push_of_some _ e))) hm.toks
  · rw [es]
    exact key
  · rw [List.mem_singleton.mp hb] at e
    exact absurd (Heap.lt_size e) (Nat.lt_irrefl _)
  · rw [h] at e
    exact absurd (Heap.lt_size e) (Nat.lt_irrefl _)
end
section
variable {X : Cx} {a b : Expr} {p pos : Pos} {k : Nat} {t : TGs}
/-- code that the proof never comes to -/
theorem pe_nev {e : Expr} : PE X e (fun _ _ _ => False) := ⟨fun _ _ _ _ _ _ h => h.elim⟩
/-- a, *b = a tuple -/
def gStar (K : PySem.W.Frag) (t : TGs) : TG := fun v σ H Q => ∃ a x xs, v = .ref a ∧ SqT K H a (x :: xs) ∧ ∀ l, H l = none → t [x, .ref l] σ (L2.upd H l (.lst xs)) Q
theorem pg_star (hc : X.calm = true) (h : PGs X [a, b] t)
    (h1 : assignEach [a, .Starred b p] X.env = [(false, assign a X.env), (true, assign b X.env)] := by rfl)
    (h2 : assignEach [a, b] X.env = [(false, assign a X.env), (false, assign b X.env)] := by rfl) : PG X (.Tuple [a, .Starred b p] k pos) (gStar X.K t) := by
  refine ⟨fun pins s σ H v u Q I r hw => ?_⟩
  obtain ⟨ad, x, xs, e1, hq, hw⟩ := hw
  subst e1
  cases r
  obtain ⟨its, rv, ht, hz⟩ := I.tuple hq
  rw [assign_Tuple, h1]
  refine wpAny_bind (wpAny_standAt ?_)
  unfold unpack
  cases rv with
  | cons r1 r2 =>
  rename_i u us
  refine wpAny_bind (wpAny_holding ?_)
  refine unpackItems_star1 (t := ad) (items := (u :: us).toArray) (x := u) (xs := us) (I.ok.hd hc) ht rfl (by have := r2.length; simp at hz ⊢; omega) fun h' tk hk htk => ?_
  have I1 : Inv X pins σ H { s with heap := h', toks := tk } := I.kept hk
  have hf : H h'.objs.size = none := I1.hok.fresh (Nat.le_refl _)
  have I2 : Inv X pins σ (L2.upd H h'.objs.size (.lst xs)) { s with heap := h'.push { cls := .type "list", data := .seq us.toArray }, toks := tk } := I1.laid (t' := tk) (fun b u e => Heap.get?_push_of_some _ e) (Nat.le_refl _) ⟨by simp at hz; omega, us, 0, r2, Heap.get?_push_size _ rfl⟩
  have := h.run pins _ σ _ [x, .ref h'.objs.size] [u, .ref h'.objs.size] Q I2 (.cons r1 (.cons rfl .nil)) (hw _ hf)
  rw [h2] at this
  exact this
end
end Bx
-- imports PyProof.RulesMatch HandS.ClsMeth HandS.HeadNt
/-! match v: case value: .. -/
namespace Bx
open PySem PySem.Spec PyProof.Rows L2
section
variable {X : Cx}
/-- the cases, of a value -/
abbrev TMs := V → TS
structure PMs (X : Cx) (cs : List MatchCase) (t : TMs) : Prop where
  run : ∀ (pins : List (Addr × Obj)) (s : Shared) (σ : L2.St) (H : Hp) (D : Ends) (v : V) (u : Value) (first : Bool), Inv X pins σ H s → RelV v u → t v D σ H → wpAny (model X.prog X.w) X.A (matchCases cs X.env u first) (SP X pins D) X.xe s
def mNil : TMs := fun _ D σ H => D.nx σ H
theorem pm_nil : PMs X [] mNil := ⟨fun _ _ σ H _ _ _ _ I _ h => wpAny_matchCases_nil ⟨σ, H, I, h⟩⟩
def mVal (r : R2) (te : TE) (tb : TS) (tr : TMs) : TMs := fun v D σ H => te σ H fun x H1 => r v x H1 fun z H2 => ∃ b, z = .bl b ∧ if b = true then tb D σ H2 else tr v D σ H2
theorem pm_val {r : R2} {e : Expr} {te : TE} {body : List Stmt} {tb : TS} {cs : List MatchCase} {tr : TMs} {pos : Pos} (ho : OpR X (compareOp .Eq) r) (he : PE X e te) (hb : PSs X body tb) (hr : PMs X cs tr) :
    PMs X (⟨.MatchValue e pos, none, body⟩ :: cs) (mVal r te tb tr) := by
  refine ⟨fun pins s σ H D v u first I rv h => wpAny_matchCases_cons (wpAny_matchPattern_Value ?_)⟩
  refine thn (he.run pins s σ H _ I h) fun x s1 ⟨z, H1, I1, rz, q1⟩ => ?_
  refine thn (ho pins s1 σ H1 v z u x _ I1 rv rz q1) fun c s2 ⟨y, H2, I2, ry, b, eb, q2⟩ => ?_
  subst eb
  cases ry
  refine wpAny_truthy_bool ?_
  cases b with
  | true =>
    rw [if_pos rfl]
    refine wpAny_assignInOrder_none ?_
    exact hb.run pins s2 σ H2 D I2 q2
  | false =>
    rw [if_neg Bool.false_ne_true]
    exact hr.run pins s2 σ H2 D v u false I2 rv q2
def mOr2 (r : R2) (te te' : TE) (tb : TS) (tr : TMs) : TMs := fun v D σ H => te σ H fun x H1 => r v x H1 fun z H2 => ∃ b, z = .bl b ∧ if b = true then tb D σ H2 else te' σ H2 fun x' H3 => r v x' H3 fun z' H4 => ∃ b', z' = .bl b' ∧ if b' = true then tb D σ H4 else tr v D σ H4
/-- case a | b -/
theorem pm_or2 {r : R2} {e e' : Expr} {te te' : TE} {body : List Stmt} {tb : TS} {cs : List MatchCase} {tr : TMs} {pos p1 p2 : Pos} (ho : OpR X (compareOp .Eq) r) (he : PE X e te) (he' : PE X e' te') (hb : PSs X body tb) (hr : PMs X cs tr) :
    PMs X (⟨.MatchOr [.MatchValue e p1, .MatchValue e' p2] pos, none, body⟩ :: cs) (mOr2 r te te' tb tr) := by
  refine ⟨fun pins s σ H D v u first I rv h => wpAny_matchCases_cons (wpAny_matchPattern_Or (wpAny_matchFirst_cons (wpAny_matchPattern_Value ?_)))⟩
  refine thn (he.run pins s σ H _ I h) fun x s1 ⟨z, H1, I1, rz, q1⟩ => ?_
  refine thn (ho pins s1 σ H1 v z u x _ I1 rv rz q1) fun c s2 ⟨y, H2, I2, ry, b, eb, q2⟩ => ?_
  subst eb
  cases ry
  refine wpAny_truthy_bool ?_
  cases b with
  | true =>
    rw [if_pos rfl]
    refine wpAny_assignInOrder_none ?_
    exact hb.run pins s2 σ H2 D I2 q2
  | false =>
    rw [if_neg Bool.false_ne_true]
    refine wpAny_matchFirst_cons (wpAny_matchPattern_Value ?_)
    refine thn (he'.run pins s2 σ H2 _ I2 q2) fun x' s3 ⟨z', H3, I3, rz', q3⟩ => ?_
    refine thn (ho pins s3 σ H3 v z' u x' _ I3 rv rz' q3) fun c' s4 ⟨y', H4, I4, ry', b', eb', q4⟩ => ?_
    subst eb'
    cases ry'
    refine wpAny_truthy_bool ?_
    cases b' with
    | true =>
      rw [if_pos rfl]
      refine wpAny_assignInOrder_none ?_
      exact hb.run pins s4 σ H4 D I4 q4
    | false =>
      rw [if_neg Bool.false_ne_true]
      exact wpAny_matchFirst_nil (hr.run pins s4 σ H4 D v u false I4 rv q4)
def tMatch (te : TE) (t : TMs) : TS := fun D σ H => te σ H fun v H1 => t v D σ H1
theorem ps_match {e : Expr} {te : TE} {cs : List MatchCase} {t : TMs} {pos : Pos} (he : PE X e te) (h : PMs X cs t) : PS X (.Match e cs pos) (tMatch te t) :=
  ⟨fun pins s σ H D I q => wpAny_Match (thn (he.run pins s σ H _ I q) fun v s1 ⟨x, H1, I1, r1, q1⟩ => h.run pins s1 σ H1 D x v true I1 r1 q1)⟩
end
end Bx
-- needs excM
-- imports HandS.FStr HandS.FStrTup PyProof.FString2 PyProof.StrLaws PyProof.Rows.RegStrFacts
/-! {x} of a text, a number, a truth, None; an own exception's __init__ with one such argument -/
namespace Bx
open PySem PySem.Spec PyProof.Rows L2
/-- a short text or a small number -/
def OkT (u : V) : Prop := (∃ y : Str, u = .str y ∧ (reprText y).length ≤ 500) ∨ ∃ i : Int, u = .int i ∧ i.natAbs.log2 < 1000
def tFmtO (te : TE) : TE := fun σ H Q => te σ H fun x H1 => (∃ y : Str, x = .str y ∧ y.length ≤ sizeLine ∧ Q (.str y) H1) ∨ (∃ i : Int, x = .int i ∧ i.natAbs.log2 < 1920 ∧ Q (.str (toString i)) H1) ∨ (∃ b : Bool, x = .bl b ∧ Q (.str (if b then "True" else "False")) H1) ∨ (x = .non ∧ Q (.str "None") H1) ∨
  (∃ (a : Addr) (u : V), x = .ref a ∧ H1 a = some (.tup [u]) ∧ OkT u ∧ ∀ m : Str, m.length ≤ 2000 → Q (.str m) H1)
theorem pe_fmtO {X : Cx} {e : Expr} {te : TE} {pos : Pos} {k : Nat} (hr : Room k X.A) (he : PE X e te) : PE X (.FormattedValue e (-1) none pos) (tFmtO te) := by
  refine ⟨fun pins s σ H Q I h => ?_⟩
  refine wpAny_FormattedValue_plain (thn (he.run pins s σ H _ I h) fun v s1 hv => ?_)
  obtain ⟨x, H1, I1, r1, q⟩ := hv
  rcases q with ⟨y, rfl, hz, q⟩ | ⟨i, rfl, hz, q⟩ | ⟨b, rfl, q⟩ | ⟨rfl, q⟩ | ⟨a, u, rfl, ha, ok, q⟩
  · obtain ⟨t, rfl⟩ := r1
    exact wpAny_formatField_str ⟨.str y, H1, I1, ⟨t, rfl⟩, q⟩ ⟨.str y, H1, I1.tok _, ⟨_, rfl⟩, q⟩ hz
  · obtain ⟨t, rfl⟩ := r1
    exact wpAny_formatField_int hz ⟨.str (toString i), H1, I1.tok _, ⟨_, rfl⟩, q⟩
  · cases r1
    exact wpAny_formatField_bool ⟨.str (if b then "True" else "False"), H1, I1.tok _, ⟨_, rfl⟩, q⟩
  · cases r1
    exact wpAny_formatField_none ⟨.str "None", H1, I1.tok _, ⟨_, rfl⟩, q⟩
  · cases r1
    have big : 100000 ≤ sizeLine := by decide
    obtain ⟨its, rv, ⟨o, ho, hcl, n, hd⟩, _⟩ := I1.tuple (SqT.of ha)
    have hu := hr.units
    obtain ⟨w0, hw, ru⟩ : ∃ w0, its = [w0] ∧ L2.RelV u w0 := by
      cases rv with
      | cons h1 h2 =>
        cases h2
        exact ⟨_, rfl, h1⟩
    subst hw
    have fin : ∀ tx : Str, ReprIs X.prog X.w w0 tx → tx.length ≤ 1950 → wpAny (model X.prog X.w) X.A (formatField (.ref a) Str.empty) (EP X pins σ Q) X.xe s1 := fun tx hx hl => by
      have htx := fmt_text [tx]
      have e1 : piled [tx] = tx.length + 2 := by rw [piled_cons]; rfl
      refine fmt_tuple (ts := [tx]) (by omega) ho hcl hd (.cons hx .nil) (by omega) fun m u tk hm => ⟨.str m, H1, I1.tok _, ⟨u, rfl⟩, q m (by omega)⟩
    rcases ok with ⟨y, rfl, hy⟩ | ⟨i, rfl, hi⟩
    · obtain ⟨t, rfl⟩ := ru
      exact fin _ (ReprIs.str y t (by omega)) (by omega)
    · obtain ⟨t, rfl⟩ := ru
      exact fin _ (ReprIs.int t (by omega)) (Nat.le_trans (int_text_len_1921 (by omega)) (by decide))
/-- what such an argument may be -/
def OkF (v : V) (H : Hp) : Prop := (∃ y : Str, v = .str y ∧ y.length ≤ 1000) ∨ (∃ i : Int, v = .int i ∧ i.natAbs.log2 < 1000) ∨ (∃ b : Bool, v = .bl b) ∨ v = .non ∨ ∃ (a : Addr) (u : V), v = .ref a ∧ H a = some (.tup [u]) ∧ OkT u
theorem OkF.new {v : V} {H : Hp} {a : Addr} {o : HO} (h : OkF v H) (ha : H a = none) : OkF v (upd H a o) := by
  rcases h with h | h | h | h | ⟨b, u, e, h1, h2⟩
  · exact .inl h
  · exact .inr (.inl h)
  · exact .inr (.inr (.inl h))
  · exact .inr (.inr (.inr (.inl h)))
  · exact .inr (.inr (.inr (.inr ⟨b, u, e, by rw [L2.upd_ne (fun z => by rw [z, ha] at h1; cases h1)]; exact h1, h2⟩)))
theorem sizeline_big : 100000 ≤ sizeLine := by decide
/-- f'text{x}' -/
theorem fmt_ok {σ : L2.St} {H : Hp} {m : Str} {i : Nat} {v : V} {Q : VK} (hm : m.length ≤ 1000) (hs : σ[i]? = some (some v)) (ok : OkF v H) (q : ∀ out, Q (.str out) H) : tJs [tC (.str m), tFmtO (tVar i)] Str.empty σ H fun out H1 => Q (.str out) H1 := by
  have big := sizeline_big
  have e0 : (Str.empty ++ m).length = m.length := by rw [PySem.Str.length_append]; show 0 + m.length = m.length; omega
  refine ⟨m, rfl, by omega, v, hs, ?_⟩
  have fin : ∀ y : Str, y.length ≤ 2000 → ∃ z : Str, V.str y = .str z ∧ (Str.empty ++ m ++ z).length ≤ sizeLine ∧ tJs [] (Str.empty ++ m ++ z) σ H fun out H1 => Q (.str out) H1 := fun y hy => ⟨y, rfl, by rw [PySem.Str.length_append]; omega, q _⟩
  rcases ok with ⟨y, rfl, hy⟩ | ⟨k, rfl, hk⟩ | ⟨b, rfl⟩ | rfl | ⟨b, u, rfl, h1, h2⟩
  · exact .inl ⟨y, rfl, by omega, fin y (by omega)⟩
  · exact .inr (.inl ⟨k, rfl, by omega, fin _ (Nat.le_trans (int_text_len_1921 (by omega)) (by decide))⟩)
  · exact .inr (.inr (.inl ⟨b, rfl, fin _ (by cases b <;> decide +kernel)⟩))
  · exact .inr (.inr (.inr (.inl ⟨rfl, fin _ (by decide +kernel)⟩)))
  · refine .inr (.inr (.inr (.inr ⟨b, u, rfl, h1, h2, fun m hm' => ?_⟩)))
    obtain ⟨z, ez, hl, hq⟩ := fin m hm'
    cases ez
    exact ⟨m, rfl, hl, hq⟩
theorem fmt_okA {σ : L2.St} {H : Hp} {m : Str} {i : Nat} {v : V} {R : List V → Hp → Prop} (hs : σ[i]? = some (some v)) (hm : m.length ≤ 1000) (ok : OkF v H) (q : ∀ out, R [.str out] H) :
    tCons (fun σ H Q => tJs [tC (.str m), tFmtO (tVar i)] Str.empty σ H fun out H1 => Q (.str out) H1) tNil σ H R := fmt_ok (Q := fun x H1 => R [x] H1) hm hs ok q
end Bx
-- needs methk clsrules
-- imports HandS.MakeKwOnly
/-! C(k = v, ..) -/
namespace Bx
open PySem PySem.Spec PyProof.Rows L2
section
variable {X : Cx} {CX : CXT} {k : Nat} {C f : Addr} {ps ks : List Str} {sp : Sp} {E : XK} {x : Str} {p pos : Pos} {kws : List Keyword} {tk : TA} {gV : List V → List V → List V}
theorem pe_mkK0 (M : Mk X.K C f) (G : GoodMN X.prog X.w X.K X.mg X.base CX k f 1 ks ps gV sp) (hr : Room (k + 1) X.A) (hg : Gl X x) (hm : X.mg x = some (.ref C)) (hx : Passes CX X E) (hkw : PK X kws tk)
    (hall : (backToKw pos (keywordEach kws X.env)).all (·.1.isSome) = true := by rfl) (hks : (backToKw pos (keywordEach kws X.env)).filterMap (·.1) = ks := by rfl) (hdb : (x == ("__debug__" : Str)) = false := by decide)
    (hpl : ((backTo pos (starEach [] X.env)).any (·.1) || (backToKw pos (keywordEach kws X.env)).any (·.1.isNone)) = false := by rfl) :
    PE X (.Call (.Name x p) [] kws pos) (tMakeK C 0 ks.length sp gV E tNil tk) := by
  obtain ⟨fd, F, g, hb⟩ := G
  exact pe_makeK0 M F hr hg hm hb hx hkw hall hks hdb hpl
end
end Bx
-- needs lists
-- imports KE.GoesEnum KE.GoesMore HandS.Iter HandS.Walk
/-! enumerate over a tuple -/
namespace Bx
section
open PySem
set_option maxHeartbeats 1000000 in
theorem meets_enum1 {v : Value} {o : Obj} {H : Heap → Prop} (B : Begins v o H) :
    Meets (Builtin.«enumerate.__new__» ⟨[.type "enumerate", v], []⟩) (fun _ R s => H s.heap ∧
      R (.ok (.ret (.ref (s.heap.push o).objs.size))) { s with heap := (s.heap.push o).push { cls := .type "enumerate", data := .fields #[.none, .bool false, .ref s.heap.objs.size, rawInt 0, .none, .none] } }) :=
  .of_wp fun prog w A R s h => by
    obtain ⟨hp, g, d, tk, os⟩ := s; obtain ⟨h1, h⟩ := h
    have hsub := sub_enumerate
    have q1 : ∀ {A' : Around} {E : Value → Shared → Prop} {Q : Value → Shared → Prop}, Q (.ref hp.objs.size) ⟨hp.push o, g, d, tk, os⟩ → wpAny (model prog w) A' (pyIter v) Q E ⟨hp, g, d, tk, os⟩ :=
      fun q => B.iter prog w _ _ ⟨hp, g, d, tk, os⟩ _ h1 q
    wp_walk using q1
    refine wpAny_stack_any fun st => wpAny_pure ?_
    split
    · rename_i c _ _ _ _ _
      cases (c == Value.type "enumerate")
      · wp_walk using q1
        exact ⟨_, rfl, h⟩
      · wp_walk using q1
        exact ⟨_, rfl, h⟩
    · wp_walk using q1
      exact ⟨_, rfl, h⟩
theorem enum1_begins {prog : Program} {w : World} {A : Around} {E : Value → Shared → Prop} {s : Shared} {v : Value} {o : Obj} {H : Heap → Prop} {Q : Value → Shared → Prop} (B : Begins v o H) (h1 : H s.heap)
    (h : ∀ h', IsEnum h' (s.heap.objs.size + 1) s.heap.objs.size 0 .none → h'.get? s.heap.objs.size = some o → h'.objs.size = s.heap.objs.size + 2 →
      (∀ b o, s.heap.get? b = some o → h'.get? b = some o) → Q (.ref (s.heap.objs.size + 1)) { s with heap := h' }) :
    wpAny (model prog w) A (call (.type "enumerate") [v]) Q E s := by
  refine callType_new F.called_enumerate (by decide) (F.typeCall_enumerate_1 _) (F.newCall_enumerate_1 _) (fun obj => F.args_object_init_2 obj _) F.entry_enumerate_new
    (meets_enum1 B) ⟨h1, ?_⟩
  have hz : (s.heap.push o).objs.size = s.heap.objs.size + 1 := Heap.size_push ..
  show _ ∧ _
  rw [hz]
  have he : IsEnum ((s.heap.push o).push { cls := .type "enumerate", data := .fields #[.none, .bool false, .ref s.heap.objs.size, rawInt 0, .none, .none] }) (s.heap.objs.size + 1) s.heap.objs.size 0 .none := by
    have := Heap.get?_push_size (s.heap.push o) (o := { cls := .type "enumerate", data := .fields #[.none, .bool false, .ref s.heap.objs.size, rawInt 0, .none, .none] }) rfl
    rw [hz] at this; exact this
  refine ⟨⟨_, he, rfl⟩, h _ he (Heap.get?_push_of_some _ (Heap.get?_push_size _ B.free)) (by rw [Heap.size_push, hz]) fun b o x => Heap.get?_push_of_some _ (Heap.get?_push_of_some _ x)⟩
end
open PySem PySem.Spec PyProof.Rows L2
/-- the tuple at a, each item in a new pair -/
def Itet (K : PySem.W.Frag) (a : Addr) : It :=
  ⟨fun i H => ∃ (xs : List V) (x : V), SqT K H a xs ∧ xs[i]? = some x, fun i H v H' => ∃ T x, v = .ref T ∧ H T = none ∧ H' = upd H T (.tup [.int (i : Nat), x]) ∧ ∀ xs, SqT K H a xs → xs[i]? = some x, fun i H => ∃ xs : List V, SqT K H a xs ∧ xs.length ≤ i⟩
theorem turn_enumT {P : Program} {w : World} {K : PySem.W.Frag} {elts : List Expr} {kk : Nat} {tpos : Pos} (a e it : Addr) :
    Turn P w K (.Tuple elts kk tpos) (Itet K a) [e, it] e (fun i h => (∃ old, IsEnum h e it ((i : Nat) : Int) old) ∧ h.IsTupleIter it a i ∧ e ≠ it ∧ a ≠ it ∧ a ≠ e) where
  mem := by simp
  obj := fun i h st b hb => by
    obtain ⟨⟨old, he⟩, ⟨o, ho, hc, hd⟩, _⟩ := st
    have e' : b = e ∨ b = it := by simpa using hb
    rcases e' with z | z
    · rw [z]; exact ⟨_, he, fun v q => nomatch q⟩
    · rw [z]; exact ⟨o, ho, fun v q => by rw [hd] at q; cases q⟩
  keep := fun i h h' st k => let ⟨⟨old, he⟩, hi, hne⟩ := st; ⟨⟨old, k e (by simp) _ he⟩, hi.at fun o q => k it (by simp) o q, hne⟩
  item := by
    intro X hP hw hK hc i pins s σ H E I hf st hg
    subst hP hw hK
    obtain ⟨⟨old, he⟩, hit, hne, hai, hae⟩ := st
    obtain ⟨xs, x, hq, hx⟩ := hg
    obtain ⟨its, rv, p, hz⟩ := I.tuple hq
    obtain ⟨u, hu, ru⟩ := rv.get hx
    have hel : e < s.heap.objs.size := Heap.lt_size he
    have hil : it < s.heap.objs.size := by obtain ⟨_, q, _⟩ := hit; exact Heap.lt_size q
    have hil2 : i < its.toArray.size := by
      have := (List.getElem?_eq_some_iff.mp hu).1
      simpa using this
    refine wpAny_pyNext_enum_itemD (Draws.tuple (A := X.A.in1) (I.ok.hd hc) it a hai its.toArray) he ⟨hit, p⟩ hil2 hne (by simp only [List.mem_cons, List.not_mem_nil, or_false, not_or]; exact ⟨hne, fun z => hae z.symm⟩) fun x0 h' tk hP ho hit' hT hsz hk => ?_
    have ex : x0 = u := by
      have h1 : its.toArray[i]? = some u := by simpa using hu
      rw [h1] at hP
      exact (Option.some.inj hP).symm
    subst ex
    refine ⟨_, rfl, wpAny_letOwnedTupleGo_enum (s := { s with heap := h', toks := tk + 1 }) ho fun h'' he' sb => ?_⟩
    have hT2 : h''.get? s.heap.objs.size = some { cls := .type "tuple", data := .seq #[.int i tk, x0] } := (sb.2 _ (Nat.ne_of_gt hel)).trans hT
    have new : ObjOk X.prog X.w (upd H s.heap.objs.size (.tup [.int (i : Nat), x])) h'' s.heap.objs.size (.tup [.int (i : Nat), x]) :=
      ⟨by show 2 ≤ sizeLine; decide, [.int i tk, x0], .cons ⟨_, rfl⟩ (.cons ru .nil), ⟨_, hT2, rfl, _, rfl⟩⟩
    have I1 : Inv X pins σ (upd H s.heap.objs.size (.tup [.int (i : Nat), x])) { s with heap := h'', toks := tk + 1 } :=
      I.turnedNew (ch := [e, it]) (fun b ob hb q => (sb.2 b (fun z => hb (by simp [z]))).trans (hk b ob (fun z => hb (by simp [z])) (fun z => hb (by simp [z])) q)) hf (Nat.le_refl _) new
    refine ⟨.ref s.heap.objs.size, _, I1, rfl, ⟨_, x, rfl, I.hok.fresh (Nat.le_refl _), rfl, fun ys hy => by rw [I.tuple_inj hy hq]; exact hx⟩, ⟨⟨x0, ?_⟩, hit'.1.at fun o q => (sb.2 it (Ne.symm hne)).trans q, hne, hai, hae⟩, fun b hb => ?_⟩
    · have e1 : ((i + 1 : Nat) : Int) = (i : Int) + 1 := by omega
      rw [e1]; exact he'
    · have hb' : b < s.heap.objs.size := by
        have e' : b = e ∨ b = it := by simpa using hb
        rcases e' with z | z
        · rw [z]; exact hel
        · rw [z]; exact hil
      rw [upd_ne (Nat.ne_of_lt hb')]
      exact (hf b hb).1
  done := by
    intro X hP hw hK hc i pins s σ H E I hf st hg
    subst hP hw hK
    obtain ⟨⟨old, he⟩, hit, hne, hai, hae⟩ := st
    obtain ⟨xs, hq, hx⟩ := hg
    obtain ⟨its, rv, p, hz⟩ := I.tuple hq
    obtain ⟨f0, f1, f2, f3, f4, f5⟩ := hf it (by simp)
    have hl := rv.length
    have hT : s.TypeIs (.ref e) "enumerate" := ⟨_, he, rfl⟩
    unfold pyNext
    refine wpAny_bind (wpAny_attempt (wpAny_callSpecial?_slot (name := Str.ofString "__next__") hT F.slot_enumerate_next
      (wpAny_call_entry F.slot_enumerate_next hT F.entry_enumerate_next ?_ (F.args_enumerate_next_1 _))))
    show wpAny _ _ (field (.ref e) 2 >>= _) _ _ _
    refine wpAny_bind (wpAny_field he rfl (x := .ref it) rfl ?_)
    refine wpAny_bind (wpAny_nextOf_tuple_end (A := X.A.in1) (I.ok.hd hc) hit p (by simp; omega) fun h' x eb hx' => ?_)
    obtain ⟨o, ho, hcl⟩ := hx'
    refine wpAny_bind (wpAny_isInstance (T := "StopIteration") (b := true) ⟨o, ho, hcl⟩ isSubtype_stop ?_)
    exact wpAny_pure ⟨rfl, I.turned (t' := s.toks) (fun b o hb q => eb b o hb q) f0 f1 f3 f4 f5⟩
  self := fun A i s Q E st h => let ⟨⟨_, he⟩, _⟩ := st; wpAny_pyIter_enum he h
def iEnumT (K : PySem.W.Frag) (ta : TA) : TI := fun σ H R => ta σ H fun vs H1 => ∃ a xs, vs = [.ref a] ∧ SqT K H1 a xs ∧ R (Itet K a) H1
theorem pi_enumT {X : Cx} {e : Expr} {ta : TA} {p pos tpos : Pos} {elts : List Expr} {kk : Nat} (hg : Gl X "enumerate") (hm : X.mg "enumerate" = none) (ha : PA X [e] ta) (hs : starEach [e] X.env = [(false, eval e X.env)] := by rfl) :
    PI X (.Tuple elts kk tpos) (.Call (.Name "enumerate" p) [e] [] pos) (iEnumT X.K ta) := by
  refine ⟨fun pins s σ H R I h => ?_⟩
  refine Call_ (ld_blt I hg hm boot_enumerate (PyProof.Rows.callWith_type1 (thn (ha.run pos pins s σ H _ I h) fun us s1 ⟨vs, H1, I1, r1, q1⟩ => ?_) hs rfl))
  obtain ⟨a, xs, ex, hq, q⟩ := q1
  subst ex
  cases r1 with
  | cons r rr =>
    cases rr
    cases r
    obtain ⟨its, rv, p', hz⟩ := I1.tuple hq
    have hal : a < s1.heap.objs.size := by obtain ⟨_, q, _⟩ := p'; exact Heap.lt_size q
    refine enum1_begins (begins_tuple a its.toArray) p' fun h' he hit hsz hk => wpAny_pyIter_enum he ?_
    have I2 : Inv X pins σ H1 { s1 with heap := h' } := I1.kept (t' := s1.toks) hk
    refine ⟨s1.heap.objs.size + 1, [s1.heap.objs.size + 1, s1.heap.objs.size], _, _, H1, rfl, I2, turn_enumT a (s1.heap.objs.size + 1) s1.heap.objs.size, ⟨⟨.none, he⟩, ⟨_, hit, rfl, rfl⟩, Nat.succ_ne_self _, Nat.ne_of_lt hal, Nat.ne_of_lt (Nat.lt_succ_of_lt hal)⟩, fun b hb => ?_, q⟩
    have e' : b = s1.heap.objs.size + 1 ∨ b = s1.heap.objs.size := by simpa using hb
    have hle : s1.heap.objs.size ≤ b := by
      rcases e' with z | z
      · rw [z]; exact Nat.le_add_right _ _
      · rw [z]; exact Nat.le_refl _
    exact I1.fpOk hle (I1.hok.fresh hle)
theorem walk_enumT {K : PySem.W.Frag} {a : Addr} {xs : List V} : Walk (Itet K a) xs.length (fun H => SqT K H a xs) (YPair (fun i => some (.int (i : Nat))) (fun i => xs[i]?)) := by
  refine ⟨fun i _ hi q => ⟨xs, xs[i], q, by simp [hi]⟩, fun _ q => ⟨xs, q, Nat.le_refl _⟩, fun i H v H' _ q y => ?_⟩
  obtain ⟨T, x, h1, h2, h3, h4⟩ := y
  exact ⟨T, .int (i : Nat), x, h1, h2, h3, rfl, h4 xs q⟩
end Bx
namespace Bx
open PySem PySem.Spec PyProof.Rows L2
theorem tn {σ : L2.St} {H : Hp} {P : List V → Hp → Prop} (h : P [] H) : tNil σ H P := h
end Bx
-- needs tryL lamlaw
-- imports HandS.Lambda KE.KLam
/-! lambdas as values: kept, called later; at most one parameter, with a default -/
namespace Bx
open PySem PySem.Spec PyProof.Rows L2 LamX PySem.W PySem.Calls
abbrev mlFn (q : Str) (params : Arguments) (body : Expr) (scope : Scope) (cl : List (Str × Addr)) (dV pm cdv ct : Value) : FuncData :=
  { kla_fn "<lambda>" q params body scope cl pm cdv ct with defaults := dV }
abbrev mlObj (q : Str) (params : Arguments) (body : Expr) (scope : Scope) (cl : List (Str × Addr)) (dV pm : Value) (c' : Addr) (ct : Value) : Obj :=
  { cls := .type "function", data := .func (mlFn q params body scope cl dV pm (.ref c') ct) }
section
variable {M : Model} {A : Around} {E : Value → Shared → Prop} {s : Shared} {q : Str} {params : Arguments} {body : Expr} {scope : Scope} {env : PySem.Env} {c P : Addr} {ps : Array Value} {pos : Pos} {line : Nat} {mg : Str → Option Value}
  {clos : List (Str × Addr)} {Q : Value → Shared → Prop} {dV : Value}
/-- the code object is not there yet -/
theorem ml_tailNew (hcl : closureFor scope env = pure clos) (hg0 : env.globals = mainGlobals) (hg : s.heap.Ns mainGlobals mg) (hcode : env.code = .ref c) (C : CodeHd s.heap c P) (hP : s.heap.get? P = some { cls := .none, data := .fields ps }) (ht : TriplesOk ps.toList)
    (hnf : codeAmong pos ps.toList = none) (hgP : mainGlobals ≠ P) (hb : s.heap.BuiltinsAt mg P)
    (h : ∀ c' ctv h' tk, Heap.ExtBut P s.heap h' → s.heap.objs.size ≤ c' → c' < h'.objs.size → h'.CodeRec (.ref c') q → h'.get? P = some { cls := .none, data := .fields (ps ++ #[rawInt pos.line, rawInt pos.col, .ref c']) } →
      Q (.ref h'.objs.size) { s with heap := h'.push (mlObj q params body scope clos dV ((mg "__name__").getD .none) c' ctv), toks := tk }) :
    wpAny M A (makeTail "<lambda>" q params (.expr body) scope env dV .none none pos line) Q E s := by
  obtain ⟨bm, ob, b1, b2, _, b4, b5, b6, b7, b8⟩ := hb
  unfold makeTail
  rw [hcl, hg0]
  refine wpAny_bind (wpAny_pure ?_)
  by_cases hc : clos.isEmpty = true
  · rw [if_pos hc]
    refine wpAny_bind (wpAny_pure (wpAny_bind (wpAny_functionCodeX hcode (C.code hP ht) (C.tab hP) hnf fun c' h' tk hx hge hlt _ hrec htb _ => ?_)))
    have hg' := hg.extBut hx hgP
    exact wpAny_bind (wpAny_builtinsFor hg' b1 b2 (hx _ _ b4 b5) b6 b7 b8 (wpAny_bind (wpAny_nsGet hg' (wpAny_bind (wpAny_pure (wpAny_newObj_type (h c' .none h' tk hx hge hlt hrec htb.2) (by size_fits)))))))
  · rw [if_neg hc]
    refine wpAny_bind (wpAny_newTextTuple ?_)
    have kp : ∀ {o : Obj} b u, s.heap.get? b = some u → (s.heap.push o).get? b = some u := fun b u e => Heap.get?_push_of_some _ e
    refine wpAny_bind (wpAny_functionCodeX hcode ((C.keeps kp).code (kp _ _ hP) ht) ((C.keeps kp).tab (kp _ _ hP)) hnf fun c' h' tk hx hge hlt _ hrec htb _ => ?_)
    have hg' := (hg.push _).extBut hx hgP
    have hx' : Heap.ExtBut P s.heap h' := fun b o hb' e => hx b o hb' (kp _ _ e)
    have hge' : s.heap.objs.size ≤ c' := Nat.le_trans (by rw [Heap.size_push]; omega) hge
    exact wpAny_bind (wpAny_builtinsFor hg' b1 b2 (hx' _ _ b4 b5) b6 b7 b8 (wpAny_bind (wpAny_nsGet hg' (wpAny_bind (wpAny_pure (wpAny_newObj_type (h c' _ h' tk hx' hge' hlt hrec htb.2) (by size_fits)))))))
/-- .. it is there -/
theorem ml_tailHit {cv : Value} (hcl : closureFor scope env = pure clos) (hg0 : env.globals = mainGlobals) (hg : s.heap.Ns mainGlobals mg) (hcode : env.code = .ref c) (C : CodeHd s.heap c P) (hP : s.heap.get? P = some { cls := .none, data := .fields ps }) (ht : TriplesOk ps.toList)
    (hf : codeAmong pos ps.toList = some cv) (hb : s.heap.BuiltinsAt mg P)
    (h : ∀ (ctv : Value) (h' : Heap) (tk : PySem.Tok), (∀ b o, s.heap.get? b = some o → h'.get? b = some o) → s.heap.objs.size ≤ h'.objs.size →
      Q (.ref h'.objs.size) { s with heap := h'.push { cls := .type "function", data := .func (mlFn q params body scope clos dV ((mg "__name__").getD .none) cv ctv) }, toks := tk }) :
    wpAny M A (makeTail "<lambda>" q params (.expr body) scope env dV .none none pos line) Q E s := by
  obtain ⟨bm, ob, b1, b2, _, b4, b5, b6, b7, b8⟩ := hb
  unfold makeTail
  rw [hcl, hg0]
  refine wpAny_bind (wpAny_pure ?_)
  by_cases hc : clos.isEmpty = true
  · rw [if_pos hc]
    exact wpAny_bind (wpAny_pure (wpAny_bind (wpAny_functionCode_hit hcode (C.code hP ht) hf (wpAny_bind (wpAny_builtinsFor hg b1 b2 b5 b6 b7 b8 (wpAny_bind (wpAny_nsGet hg (wpAny_bind (wpAny_pure (wpAny_newObj_type (h .none s.heap s.toks (fun _ _ e => e) (Nat.le_refl _)) (by size_fits)))))))))))
  · rw [if_neg hc]
    refine wpAny_bind (wpAny_newTextTuple ?_)
    have kp : ∀ {o : Obj} b u, s.heap.get? b = some u → (s.heap.push o).get? b = some u := fun b u e => Heap.get?_push_of_some _ e
    refine wpAny_bind (wpAny_functionCode_hit hcode ((C.keeps kp).code (kp _ _ hP) ht) hf ?_)
    exact wpAny_bind (wpAny_builtinsFor (hg.push _) b1 b2 (kp _ _ b5) b6 b7 b8 (wpAny_bind (wpAny_nsGet (hg.push _) (wpAny_bind (wpAny_pure (wpAny_newObj_type (h _ _ s.toks (fun b o e => kp _ _ e) (by rw [Heap.size_push]; omega)) (by size_fits)))))))
end
/-- the object of a kept lambda -/
def LamO (f : Addr) (o : Obj) : HO := .ext fun h => h.get? f = some o
/-- what is known of a lambda: its name, parameters, body, scope, cells -/
structure LInf where
  q : Str
  params : Arguments
  body : Expr
  scope : Scope
  cl : List (Str × Addr)
/-- the lambda L stands at f; d: its default's value, if it has one -/
def LamAt (L : LInf) (d : Option V) (H : Hp) (f : Addr) : Prop := ∃ (c' : Addr) (dV pm ctv : Value), H f = some (LamO f (mlObj L.q L.params L.body L.scope L.cl dV pm c' ctv)) ∧ H c' = some (CodeO c' L.q) ∧
  ((d = none ∧ dV = .none) ∨ ∃ T x, d = some x ∧ dV = .ref T ∧ H T = some (.tup [x]))
theorem LamAt.mono {L : LInf} {d : Option V} {H H' : Hp} {f : Addr} (e : ∀ b o, H b = some o → (∀ ys, o ≠ .lst ys) → (∀ ps, o ≠ .tbl ps) → H' b = some o) (h : LamAt L d H f) : LamAt L d H' f := by
  obtain ⟨c', dV, pm, ctv, h1, h2, h3⟩ := h
  refine ⟨c', dV, pm, ctv, e _ _ h1 (fun ys z => by unfold LamO at z; cases z) (fun ps z => by unfold LamO at z; cases z), e _ _ h2 (fun ys z => by unfold CodeO at z; cases z) (fun ps z => by unfold CodeO at z; cases z), ?_⟩
  rcases h3 with h3 | ⟨T, x, h3, h4, h5⟩
  · exact .inl h3
  · exact .inr ⟨T, x, h3, h4, e _ _ h5 (fun ys z => by cases z) (fun ps z => by cases z)⟩
section
variable {X : Cx} {pins : List (Addr × Obj)} {σ : L2.St} {H : Hp} {s : Shared}
/-- the function is made and kept -/
theorem lam_make {T : List (Addr × Str)} {c P : Addr} {params : Arguments} {body : Expr} {scope : Scope} {pos : Pos} {line : Nat} {dV : Value} {E : Value → Shared → Prop} {Q : Value → Shared → Prop} (I : L2.Inv X pins σ H s) (TB : TabB X.base X.mg c P) (hcode : X.env.code = .ref c)
    (hm : (P, X.env.qual ++ "<lambda>") ∈ T) (hu : ∀ p ∈ T, p.1 = P → p.2 = X.env.qual ++ "<lambda>") (hT : Tabs T H) (hfree : ∀ y ∈ scope.names, y.2 = .free → ∃ c, X.env.cells.lookup y.1 = some c)
    (h : ∀ (f c' : Addr) (pm ctv : Value) (H1 : Hp) (s' : Shared), L2.Inv X pins σ (upd H1 f (LamO f (mlObj (X.env.qual ++ "<lambda>") params body scope (cloFrom X.env.cells scope.names []) dV pm c' ctv))) s' → ExtN H H1 → Tabs T H1 → H f = none → H1 f = none → H1 c' = some (CodeO c' (X.env.qual ++ "<lambda>")) → Q (.ref f) s') :
    wpAny (model X.prog X.w) X.A (makeTail "<lambda>" (X.env.qual ++ "<lambda>") params (.expr body) scope X.env dV .none none pos line) Q E s := by
  obtain ⟨ps, hP, ht, ha⟩ := hT _ hm
  have bP : s.heap.BuiltinsAt X.mg P := TB.bm.keeps I.bk
  have hP' : s.heap.get? P = some { cls := .none, data := .fields ps } := I.hok P _ hP
  have lay : ∀ {H1 : Hp} {h' : Heap} {tk : Nat} {ob : Obj}, L2.Inv X pins σ H1 { s with heap := h', toks := tk } → (∀ v, ob.data ≠ .cell v) → ob.isFreed = false → L2.Inv X pins σ (upd H1 h'.objs.size (LamO h'.objs.size ob)) { s with heap := h'.push ob, toks := tk } ∧ H1 h'.objs.size = none := fun {H1 h' tk ob} J nc fr =>
    ⟨J.laid (h' := h'.push ob) (t' := tk) (fun b u e => Heap.get?_push_of_some _ e) (Nat.le_refl _) ⟨Heap.get?_push_size _ fr, ⟨_, Heap.get?_push_size _ fr⟩, fun h1 h2 p k => k _ p⟩, J.hok.fresh (Nat.le_refl _)⟩
  cases hc : codeAmong pos ps.toList with
  | none =>
    refine ml_tailNew (mg := X.mg) (c := c) (P := P) (ps := ps) (closure_ok hfree) I.ok.glob (I.mod.glob.keeps I.bk) hcode (TB.code.keeps I.bk) hP' ht hc TB.gP bP fun c' ctv h' tk hx hge hlt hrec htb => ?_
    obtain ⟨c2, oc, vs, t, e2, hoc, hd, hv⟩ := hrec
    cases e2
    have nC : H c' = none := I.hok.fresh hge
    have I1 := inv_table (t' := tk) (more := #[rawInt pos.line, rawInt pos.col, .ref c']) (h' := h') I hP (fun b o hb e => hx b o hb e) htb hge ⟨oc, vs, t, hoc, hd, hv⟩
    have hE : ExtN H (upd (upd H P (.tbl (ps ++ #[rawInt pos.line, rawInt pos.col, .ref c']))) c' (CodeO c' (X.env.qual ++ "<lambda>"))) := fun b o e n => by
      rw [upd_ne (ne_of_none e nC), upd_ne (fun z => n ps (Option.some.inj (e.symm.trans (by rw [z]; exact hP))))]
      exact e
    have eL : (ps ++ #[rawInt pos.line, rawInt pos.col, .ref c']).toList = ps.toList ++ [rawInt pos.line, rawInt pos.col, .ref c'] := by simp
    obtain ⟨J, nf⟩ := lay (ob := mlObj (X.env.qual ++ "<lambda>") params body scope (cloFrom X.env.cells scope.names []) dV ((X.mg "__name__").getD .none) c' ctv) I1 (fun v z => by cases z) rfl
    refine h h'.objs.size c' ((X.mg "__name__").getD .none) ctv _ _ J hE (fun p hp => ?_) (I.hok.fresh (Nat.le_trans hge (Nat.le_of_lt hlt))) nf upd_same
    by_cases hb : p.1 = P
    · rw [hu p hp hb, hb]
      refine ⟨_, by rw [upd_ne (ne_of_none hP nC), upd_same], by rw [eL]; exact PySem.TriplesOk_snoc _ _ _ _ ht, fun p' cv hcv => ?_⟩
      rw [eL] at hcv
      rcases among_app _ ht hcv with z | z
      · obtain ⟨c0, e1, e2⟩ := ha p' cv z
        exact ⟨c0, e1, hE _ _ e2 codeO_ne⟩
      · exact ⟨c', z, upd_same⟩
    · obtain ⟨ps', a1, a2, a3⟩ := hT p hp
      refine ⟨ps', by rw [upd_ne (ne_of_none a1 nC), upd_ne hb]; exact a1, a2, fun p' cv hcv => ?_⟩
      obtain ⟨c0, e1, e2⟩ := a3 p' cv hcv
      exact ⟨c0, e1, hE _ _ e2 codeO_ne⟩
  | some cv =>
    obtain ⟨c', e, hco⟩ := ha pos cv hc
    subst e
    refine ml_tailHit (mg := X.mg) (c := c) (P := P) (ps := ps) (closure_ok hfree) I.ok.glob (I.mod.glob.keeps I.bk) hcode (TB.code.keeps I.bk) hP' ht hc bP fun ctv h' tk hx hsz => ?_
    have I1 : L2.Inv X pins σ H { s with heap := h', toks := tk } := I.kept fun b o e => hx b o e
    obtain ⟨J, nf⟩ := lay (ob := mlObj (X.env.qual ++ "<lambda>") params body scope (cloFrom X.env.cells scope.names []) dV ((X.mg "__name__").getD .none) c' ctv) I1 (fun v z => by cases z) rfl
    exact h h'.objs.size c' ((X.mg "__name__").getD .none) ctv H _ J (ExtN.refl H) hT (I.hok.fresh hsz) nf hco
end
/-- lambda: body -/
def tLamV (T : List (Addr × Str)) (L : LInf) (d : Option V) : TE := fun _ H Q => Tabs T H ∧ ∀ H1 f, ExtN H H1 → Tabs T H1 → LamAt L d H1 f → H f = none → Q (.ref f) H1
section
variable {X : Cx} {c P : Addr} {params : Arguments} {body d : Expr} {scope : Scope} {pos : Pos}
abbrev linf (X : Cx) (params : Arguments) (body : Expr) (scope : Scope) : LInf := ⟨X.env.qual ++ "<lambda>", params, body, scope, cloFrom X.env.cells scope.names []⟩
theorem pe_lam0 (TB : TabB X.base X.mg c P) (hcode : X.env.code = .ref c) (hf : ∀ y ∈ scope.names, y.2 = .free → X.env.scope.names.lookup y.1 = some .cell ∨ X.env.scope.names.lookup y.1 = some .free) (hdef : defaultsOf params X.env = ([], [])) :
    PE X (.Lambda params body scope pos) (tLamV [(P, X.env.qual ++ "<lambda>")] (linf X params body scope) none) := by
  refine ⟨fun pins s σ H Q I h => ?_⟩
  obtain ⟨hT, h⟩ := h
  refine kla_eval hdef ?_
  rw [makeFunction_eq]
  simp only [List.zip_nil_right, List.filterMap_nil, List.isEmpty_nil, if_true, pure_bind]
  refine lam_make I TB hcode (List.mem_singleton.mpr rfl) (fun q hq _ => by rw [List.mem_singleton.mp hq]) hT (fun y hy e => ?_) fun f c' pm ctv H1 s' J eN T1 n0 nf hc => ?_
  · rcases hf y hy e with k | k
    · exact I.ok.has _ (.inl k)
    · exact I.ok.has _ (.inr k)
  · have e1 := same_new (o := LamO f (mlObj (X.env.qual ++ "<lambda>") params body scope (cloFrom X.env.cells scope.names []) .none pm c' ctv)) nf
    exact ⟨.ref f, _, J, rfl, h _ f (eN.trans (extN_same e1)) (T1.ext e1) ⟨c', .none, pm, ctv, upd_same, e1 _ _ hc, .inl ⟨rfl, rfl⟩⟩ n0⟩
/-- lambda a = e: body -/
theorem pe_lam1 {te : TE} (TB : TabB X.base X.mg c P) (hcode : X.env.code = .ref c) (hf : ∀ y ∈ scope.names, y.2 = .free → X.env.scope.names.lookup y.1 = some .cell ∨ X.env.scope.names.lookup y.1 = some .free) (hdef : defaultsOf params X.env = ([eval d X.env], [])) (hkw : params.kwonlyargs = []) (hd : PE X d te) :
    PE X (.Lambda params body scope pos) (fun σ H Q => te σ H fun x H1 => tLamV [(P, X.env.qual ++ "<lambda>")] (linf X params body scope) (some x) σ H1 Q) := by
  refine ⟨fun pins s σ H Q I h => ?_⟩
  rw [arm_eval_Lambda, hdef]
  show wpAny _ _ (do let dv ← evalAll [eval d X.env]; let kdv ← holding dv (evalAllOpt []); makeFunction "<lambda>" (X.env.qual ++ "<lambda>") params (.expr body) scope X.env dv kdv [] pos pos.line) _ _ s
  refine wpAny_bind (wpAny_bind (thn (hd.run pins s σ H _ I h) fun u s1 ⟨x, H1, I1, r1, hT, h1⟩ => ?_))
  refine wpAny_bind (wpAny_holding (wpAny_pure (wpAny_pure (wpAny_bind (wpAny_holding (wpAny_pure ?_))))))
  rw [makeFunction_eq, hkw]
  simp only [List.zip_nil_left, List.filterMap_nil, List.isEmpty_nil, List.isEmpty_cons, Bool.false_eq_true, if_false, if_true, pure_bind]
  refine wpAny_bind (wpAny_newTextTuple ?_)
  have nT : H1 s1.heap.objs.size = none := I1.hok.fresh (Nat.le_refl _)
  have eT := same_new (o := .tup [x]) nT
  have I2 : L2.Inv X pins σ (upd H1 s1.heap.objs.size (.tup [x])) { s1 with heap := s1.heap.push { cls := .type "tuple", data := .seq [u].toArray } } := I1.laid (t' := s1.toks) (fun b u e => Heap.get?_push_of_some _ e) (Nat.le_refl _) ⟨(by show 1 ≤ sizeLine; decide), [u], .cons r1 .nil, ⟨_, Heap.get?_push_size _ rfl, rfl, _, rfl⟩⟩
  refine lam_make I2 TB hcode (List.mem_singleton.mpr rfl) (fun q hq _ => by rw [List.mem_singleton.mp hq]) (hT.ext eT) (fun y hy e => ?_) fun f c' pm ctv H2 s' J eN T1 n0 nf hc => ?_
  · rcases hf y hy e with k | k
    · exact I.ok.has _ (.inl k)
    · exact I.ok.has _ (.inr k)
  · have e1 := same_new (o := LamO f (mlObj (X.env.qual ++ "<lambda>") params body scope (cloFrom X.env.cells scope.names []) (.ref s1.heap.objs.size) pm c' ctv)) nf
    have n1 : H1 f = none := by
      cases q : H1 f with
      | none => rfl
      | some o =>
        have := eT _ _ q
        rw [n0] at this
        cases this
    exact ⟨.ref f, _, J, rfl, h1 _ f ((extN_same eT).trans (eN.trans (extN_same e1))) (T1.ext e1) ⟨c', .ref s1.heap.objs.size, pm, ctv, upd_same, e1 _ _ hc, .inr ⟨_, x, rfl, rfl, e1 _ _ (eN _ _ upd_same fun ps z => by cases z)⟩⟩ n1⟩
end
end Bx
-- needs lamV
-- imports HandS.Comp
/-! [elt for target in iter] where what elt reads may lean on the def's own state (its cells): kept lambdas called one by one -/
namespace Bx
open PySem PySem.Spec PyProof.Rows L2
section
variable {X : Cx} {elt tg iter : Expr} {scope : Scope} {own : List (Str × Nat)} {pos : Pos} {wi : TI} {g : TG} {te : L2.St → TE}
theorem pe_lcI (hc : X.calm = true) (hN : X.N.Nodup) (hi : PI X tg iter wi) (ok : BlkOk X.N X.env.scope scope own)
    (hg : ∀ (s : Shared) (H : Hp) (C : Addr) (cl : List (Str × Addr)) (fp : List Addr), PG (X.blk s H scope (compEnvC scope cl C X.env) fp) tg g)
    (he : ∀ (pins : List (Addr × Obj)) (σ : L2.St) (s : Shared) (H : Hp), L2.Inv X pins σ H s → ∀ (C : Addr) (cl : List (Str × Addr)) (fp : List Addr), (∀ b ∈ fp, FpOk X pins H b) → PE (X.blk s H scope (compEnvC scope cl C X.env) fp) elt (te σ))
    (hs : ∀ x, foldedSetIterable iter X.env x = pure x := by intro _; rfl) : PE X (.ListComp elt [⟨tg, iter, [], 0⟩] scope pos) (fun σ H Q => tLc wi g tYes (te σ) (own.map (·.2)) σ H Q) := by
  refine ⟨fun pins s σ H Q I h => ?_⟩
  have fr : ∀ y ∈ scope.names, y.2 = .free → ∃ c, X.env.cells.lookup y.1 = some c := fun y hy e => (ok.free y hy e).elim (fun k => I.ok.has _ (.inl k)) fun k => I.ok.has _ (.inr k)
  rw [eval_ListComp]
  refine wpAny_comprehension_free (use := none) rfl hs (closure_ok fr) ok.kind (fun y hy e => by rw [ok.uniq y hy, e]) (thn (hi.run pins s σ H _ I h) fun xv s1 hx => thn hx fun itv s2 h2 => ?_)
  obtain ⟨it, fp, tn, J, H2, rfl, I2, T, c2, f2, q⟩ := h2
  refine wpAny_newObj_type (newEnv_comp ?_) (by show 0 ≤ sizeLine; decide)
  obtain ⟨W, ⟨m0, w0⟩, turn⟩ := q s2.heap.objs.size (I2.hok.fresh (Nat.le_refl _))
  have I3 := I2.laid (a := s2.heap.objs.size) (o := .lst []) (h' := s2.heap.push { cls := .type "list", data := .seq ([] : List Value).toArray }) (t' := s2.toks) (fun b o e => Heap.get?_push_of_some _ e) (Nat.le_refl _) ⟨Nat.zero_le _, [], 0, .nil, Heap.get?_push_size _ rfl⟩
  have lt : ∀ b ∈ fp, b < s2.heap.objs.size := fun b hb => by
    obtain ⟨o, e, _⟩ := T.obj _ _ c2 b hb
    exact Heap.lt_size e
  generalize hD : s2.heap.objs.size = D at *
  generalize e3 : ({ s2 with heap := s2.heap.push { cls := .type "list", data := .seq ([] : List Value).toArray } } : Shared) = s3
  have h3 : s3.heap = s2.heap.push { cls := .type "list", data := .seq ([] : List Value).toArray } := by rw [← e3]
  have I3 : L2.Inv X pins σ (upd H2 D (.lst [])) s3 := by rw [← e3]; exact I3
  have f3 : ∀ b ∈ fp, FpOk X pins (upd H2 D (.lst [])) b ∧ b < s3.heap.objs.size := fun b hb => by
    have l := lt b hb
    refine ⟨⟨?_, (f2 b hb).2⟩, by rw [h3, Heap.size_push, hD]; exact Nat.lt_succ_of_lt l⟩
    rw [upd_ne (Nat.ne_of_lt l)]
    exact (f2 b hb).1
  have c3 : tn 0 s3.heap := T.keep _ _ _ c2 fun b _ o e => by rw [h3]; exact Heap.get?_push_of_some _ e
  have n3 : ∀ b ∈ fp, (upd H2 D (.lst [])) b = none := fun b hb => (f3 b hb).1.1
  generalize upd H2 D (.lst []) = H3 at I3 f3 w0 n3
  have I4 := block_start I3 ok hN f3
  have pg := hg s3 H3 s3.heap.objs.size (cellsFrom (s3.heap.objs.size + 1) scope.names (cloFrom X.env.cells scope.names [])) fp
  have pe := he pins σ s3 H3 I3 s3.heap.objs.size (cellsFrom (s3.heap.objs.size + 1) scope.names (cloFrom X.env.cells scope.names [])) fp fun b hb => (f3 b hb).1
  show codeAny _ _ (.compStart (.ListComp elt [⟨tg, iter, [], 0⟩] scope pos) 0 (.ref it) (.ref D) (compEnvC scope (cellsFrom (s3.heap.objs.size + 1) scope.names (cloFrom X.env.cells scope.names [])) s3.heap.objs.size X.env)) (compPost (model X.prog X.w) X.A X.xe none (EP X pins σ Q) (.ref D) s3.heap.objs.size) { s3 with heap := pushCells (s3.heap.push { cls := .type "dict", data := .dict #[] }) scope.names }
  generalize hce : compEnvC scope (cellsFrom (s3.heap.objs.size + 1) scope.names (cloFrom X.env.cells scope.names [])) s3.heap.objs.size X.env = ce at I4 pg pe ⊢
  have cL : ce.locals = s3.heap.objs.size := by subst hce; rfl
  generalize e4 : ({ s3 with heap := pushCells (s3.heap.push { cls := .type "dict", data := .dict #[] }) scope.names } : Shared) = s4 at I4 ⊢
  have c4 : tn 0 s4.heap := T.keep _ _ _ c3 fun b _ o e => by rw [← e4]; exact pushCells_keeps _ _ _ _ (Heap.get?_push_of_some _ e)
  have fine : ∀ {σ' : L2.St} {H' : Hp} {s' : Shared}, L2.Inv (X.blk s3 H3 scope ce fp) [] σ' H' s' → (∀ b ∈ fp, H' b = none) → ∀ b ∈ fp, FpOk (X.blk s3 H3 scope ce fp) [] H' b := fun {σ' H' s'} J n b hb =>
    ⟨n b hb, (J.ok.exf b hb).1, J.ok.exfs b hb, .inl hb, fun x c e => (J.ok.exf b hb).2 x c e, fun p hp => absurd (show p ∈ ([] : List (Addr × Obj)) ++ [] from hp) (by simp)⟩
  refine codeAny_compStart_list ?loop (T.self X.A 0 _ _ _ c4 ?loop)
  -- a turn
  refine compLoop_any (fun n s' => ∃ i H', L2.Inv (X.blk s3 H3 scope ce fp) [] (wipe σ (own.map (·.2))) H' s' ∧ tn i s'.heap ∧ (∀ b ∈ fp, H' b = none) ∧ W i n H') ?_ m0 ⟨0, H3, I4, c4, n3, w0⟩
  rintro n s5 ⟨i, H5, I5, c5, n5, w5⟩
  rcases turn i n H5 w5 with ⟨stop, done⟩ | ⟨go, Nx, less, step⟩
  · refine thnF (T.done (X.blk s3 H3 scope ce fp) rfl rfl rfl hc i [] s5 _ H5 (fun _ _ => False) I5 (fine I5 n5) c5 stop) fun r s6 ⟨hr, I6⟩ => ?_
    subst hr
    have I7 : L2.Inv X pins σ H5 s6 := I3.call' (ch := fp) I6.os I6.base I6.hok I6.bare fun b hb => ⟨(f3 b hb).1.2.2.2.1, (f3 b hb).1.2.1, (f3 b hb).1.2.2.2.2.1, (f3 b hb).1.2.2.2.2.2⟩
    have z : H5 ce.locals = none := I6.free
    obtain ⟨m, hn, _⟩ := I6.loc
    have hn : s6.heap.Ns ce.locals m := hn
    rw [cL] at z hn
    obtain ⟨_, g1, g2, g3, g4, g5⟩ := I3.fpOk (Nat.le_refl _) z
    exact ⟨m, hn, fun h'' sb => ⟨.ref D, H5, I7.turned (t' := s6.toks) (fun b o hb e => (sb.2 b hb).trans e) z g1 g3 g4 g5, rfl, done⟩⟩
  · refine thnF (T.item (X.blk s3 H3 scope ce fp) rfl rfl rfl hc i [] s5 _ H5 (fun _ _ => False) I5 (fine I5 n5) c5 go) fun r s6 ⟨u, hr, h6⟩ => ?_
    subst hr
    refine thnF h6 fun _ s7 ⟨x, H7, I7, r7, y7, c7, n7⟩ => ?_
    refine thnF (pg.run _ s7 _ H7 x u _ (I7.pinned (fine I7 n7) (T.obj _ _ c7)) r7 (step x H7 y7)) fun _ s8 ⟨σ8, H8, I8, hw, q8⟩ => ?_
    refine thnF ((pts_nil (X := X.blk s3 H3 scope ce fp)).run _ s8 σ8 H8 _ I8 q8) fun b s9 ⟨H9, I9, q9⟩ => ?_
    have fin : ∀ {s' : Shared} {H' : Hp}, L2.Inv (X.blk s3 H3 scope ce fp) ([] ++ pinsAt fp s7.heap) σ8 H' s' → Nx H' → ∃ m, m < n ∧ ∃ i H', L2.Inv (X.blk s3 H3 scope ce fp) [] (wipe σ (own.map (·.2))) H' s' ∧ tn i s'.heap ∧ (∀ b ∈ fp, H' b = none) ∧ W i m H' := fun {s' H'} J nx => by
      obtain ⟨m', hm, w'⟩ := less H' nx
      have at_ : ∀ b ∈ fp, ∀ o, s7.heap.get? b = some o → s'.heap.get? b = some o ∧ H' b = none := fun b hb o e =>
        have z := J.pin (b, o) (List.mem_append_right _ (List.mem_append_right _ (mem_pinsAt hb e)))
        ⟨z.1, z.2.1⟩
      refine ⟨m', hm, i + 1, H', (J.unpinned (pins := [])).weak (by rw [← hw, wipe_length]) (fun j v e => ?_), T.keep _ _ _ c7 fun b hb o e => (at_ b hb o e).1, fun b hb => ?_, w'⟩
      · rw [← hw] at e
        exact (wipe_some e).1
      · obtain ⟨o, e, _⟩ := T.obj _ _ c7 b hb
        exact (at_ b hb o e).2
    cases b with
    | false => exact fin I9 q9
    | true =>
      refine thnF (pe.run _ s9 σ8 H9 _ I9 q9) fun z s10 ⟨yv, H10, I10, r10, acc, hD10, hz, nx⟩ => ?_
      exact app_ok (X := X.blk s3 H3 scope ce fp) I10 hD10 hz r10 fun s11 I11 => fin I11 nx
end
end Bx
-- needs lamV lcI
/-! a kept lambda called: its cells hold what the def's slots say -/
namespace Bx
open PySem PySem.Spec PyProof.Rows L2 LamX
/-- the names of a lambda: captured ones, globals, parameters of its own that the def does not know -/
structure Lam1 (N : List Str) (sc scope : Scope) : Prop where
  kind : scope.kind = .function
  co : scope.isCoroutine = false
  gen : scope.isGenerator = false
  nocell : ∀ y ∈ scope.names, y.2 ≠ .cell
  own : ∀ y ∈ N, scope.names.lookup y ≠ some .local
  free : ∀ y ∈ scope.names, y.2 = .free → sc.names.lookup y.1 = some .cell ∨ sc.names.lookup y.1 = some .free
def lam1B (N : List Str) (sc scope : Scope) : Bool :=
  decide (scope.kind = .function) && !scope.isCoroutine && !scope.isGenerator && (scope.names.all fun y => !decide (y.2 = .cell)) && (N.all fun y => !decide (scope.names.lookup y = some .local)) &&
    scope.names.all fun y => (!decide (y.2 = .free) || decide (sc.names.lookup y.1 = some .cell) || decide (sc.names.lookup y.1 = some .free))
theorem lam1_by {N : List Str} {sc scope : Scope} (h : lam1B N sc scope = true) : Lam1 N sc scope := by
  unfold lam1B at h
  simp only [Bool.and_eq_true, Bool.or_eq_true, Bool.not_eq_true', decide_eq_true_eq, decide_eq_false_iff_not, List.all_eq_true] at h
  obtain ⟨⟨⟨⟨⟨h1, h2⟩, h3⟩, h4⟩, h5⟩, h6⟩ := h
  refine ⟨h1, h2, h3, h4, h5, fun y hy e => ?_⟩
  rcases h6 y hy with (z | z) | z
  · exact absurd e z
  · exact .inl z
  · exact .inr z
/-- the cells cl hold what σ says of the captured names -/
structure Cap (N : List Str) (σ : L2.St) (sc : Scope) (cl : List (Str × Addr)) (H : Hp) (h : Heap) : Prop where
  cell : ∀ y c, cl.lookup y = some c → (∃ v, h.IsCell c v) ∧ H c = none
  val : ∀ (i : Nat) y v, N[i]? = some y → σ[i]? = some (some v) → sc.names.lookup y = some .free → ∃ c w, cl.lookup y = some c ∧ L2.RelV v w ∧ h.IsCell c (some w)
  inj : ∀ y z c, cl.lookup y = some c → cl.lookup z = some c → y = z
  has : ∀ y, sc.names.lookup y = some .free → ∃ c, cl.lookup y = some c
section
variable {X : Cx} {pins : List (Addr × Obj)} {σ : L2.St} {H : Hp} {s : Shared} {scope : Scope}
theorem cm_of (L : Lam1 X.N X.env.scope scope) (ok : X.Ok) {y : Str} {c : Addr} (e : (cloFrom X.env.cells scope.names []).lookup y = some c) : X.env.cells.lookup y = some c := by
  rcases cloFrom_mem (PySem.mem_of_lookup e) with hm | ⟨h1, h2⟩
  · cases hm
  · obtain ⟨c1, hc⟩ : ∃ c, X.env.cells.lookup y = some c := (L.free _ h1 rfl).elim (fun k => ok.has _ (.inl k)) fun k => ok.has _ (.inr k)
    have e2 : c = c1 := by
      rw [h2, hc] <;> rfl
    rw [e2]
    exact hc
theorem Cap.of (I : L2.Inv X pins σ H s) (L : Lam1 X.N X.env.scope scope) : Cap X.N σ scope (cloFrom X.env.cells scope.names []) H s.heap where
  cell := fun y c e => ⟨I.cell y c (cm_of L I.ok e), I.freeC y c (cm_of L I.ok e)⟩
  val := fun i y v h1 h2 h3 => by
    obtain ⟨m, hn, hl⟩ := I.loc
    have hf := L.free _ (PySem.mem_of_lookup h3) rfl
    obtain ⟨w, r, q⟩ := hl i y v h1 h2 (hf.elim (fun k => .inr (.inl k)) fun k => .inr (.inr k))
    obtain ⟨c, hc⟩ := mem_lookup (cloFrom_has (cells := X.env.cells) (acc := []) (PySem.mem_of_lookup h3))
    have c1 := cm_of L I.ok hc
    rcases q with ⟨k', _⟩ | ⟨_, c3, e', z⟩
    · have k' : X.env.scope.names.lookup y = some .local := k'
      rcases hf with k2 | k2 <;> rw [show X.env.scope.names.lookup y = _ from k2] at k' <;> cases k'
    · rw [c1] at e'
      cases e'
      exact ⟨_, w, hc, r, z⟩
  inj := fun y z c e1 e2 => I.ok.inj y z c (cm_of L I.ok e1) (cm_of L I.ok e2)
  has := fun y hl => mem_lookup (cloFrom_has (cells := X.env.cells) (acc := []) (PySem.mem_of_lookup hl))
theorem Cap.un {N : List Str} {sc : Scope} {cl : List (Str × Addr)} {h h' : Heap} {H' : Hp} {fs ex : List Addr} (C : Cap N σ sc cl H h) (u : Un fs ex H H' h h') (nx : ∀ y c, cl.lookup y = some c → c ∉ ex) : Cap N σ sc cl H' h' := by
  have st : ∀ y c v, cl.lookup y = some c → h.IsCell c v → h'.IsCell c v := fun y c v e ⟨o, ho, hd⟩ => by
    obtain ⟨sl, q⟩ := u.any ho (C.cell y c e).2 (nx y c e)
    exact ⟨_, q, hd⟩
  refine ⟨fun y c e => ?_, fun i y v h1 h2 h3 => ?_, C.inj, C.has⟩
  · obtain ⟨⟨v, z⟩, n⟩ := C.cell y c e
    refine ⟨⟨v, st y c v e z⟩, ?_⟩
    obtain ⟨o, ho, hd⟩ := z
    exact u.free c o ho n (nx y c e)
  · obtain ⟨c, w, e, r, z⟩ := C.val i y v h1 h2 h3
    exact ⟨c, w, e, r, st y c _ e z⟩
/-- the body's state at its start -/
theorem lam_startV {s1 : Shared} {HZ : Hp} {A : Around} {outer : List PySem.Env} {E : XK} {f c' : Addr} {h₁ : Heap} {tk : Nat} {m : Str → Option Value} (L : Lam1 X.N X.env.scope scope) (C : Cap X.N σ scope (cloFrom X.env.cells scope.names []) HZ s1.heap) (hl : σ.length = X.N.length)
    (e0 : Env0 X.prog X.w X.K X.mg X.base A outer s1 HZ) (hd : A.handled = none) (hns : h₁.Ns s1.heap.objs.size m) (kp : ∀ b o, s1.heap.get? b = some o → h₁.get? b = some o) :
    L2.Inv (lamCx X A outer s1 HZ E scope f c') [] σ HZ { s1 with heap := h₁, toks := tk } := by
  have noA : ∀ b : Addr, b ∉ (lamCx X A outer s1 HZ E scope f c').ex := fun b z => absurd (show b ∈ ([] : List Addr) from z) (by simp)
  have st : ∀ {c : Addr} {v : Option Value}, s1.heap.IsCell c v → h₁.IsCell c v := fun ⟨o, ho, hd⟩ => ⟨o, kp _ _ ho, hd⟩
  refine ⟨⟨e0.mod, L.kind, rfl, rfl, Nat.le_refl _, C.inj, fun y hy => ?_, fun y c z _ => ?_, fun _ => hd, Around.frames_deeper e0.frames, .inr ⟨rfl, rfl⟩, fun b z => absurd z (noA b), e0.bs, e0.bsz, fun b _ _ => noA b, fun b z => absurd z (noA b), e0.funs, e0.frf⟩,
    rfl, e0.bare, Un.kept kp, ⟨m, hns, fun i y v e1 e2 e3 => ?_⟩, fun y c e => ?_, e0.hok.fresh (Nat.le_refl _), fun y c e => (C.cell y c e).2, fun q hq => absurd (show q ∈ ([] : List (Addr × Obj)) ++ [] from hq) (by simp), e0.hok.kept kp, hl⟩
  · have hy : scope.names.lookup y = some .cell ∨ scope.names.lookup y = some .free := hy
    rcases hy with hy | hy
    · exact absurd rfl (L.nocell _ (PySem.mem_of_lookup hy))
    · exact C.has y hy
  · have z : false = true := z
    cases z
  · have e3 : Vis scope y := e3
    rcases e3 with k | k | k
    · exact absurd k (L.own y (List.mem_of_getElem? e1))
    · exact absurd rfl (L.nocell _ (PySem.mem_of_lookup k))
    · obtain ⟨c, w, h2, r, z⟩ := C.val i y v e1 e2 k
      exact ⟨w, r, .inr ⟨.inr k, c, h2, st z⟩⟩
  · obtain ⟨⟨v, z⟩, _⟩ := C.cell y c e
    exact ⟨v, st z⟩
end
/-- how a kept lambda binds its parameters: none, or one by its default -/
def BindL (params : Arguments) (body : Expr) (scope : Scope) (hd : Bool) : Prop := match hd with
  | false => ∀ (q : Str) (cl : List (Str × Addr)) (pm cdv ct : Value), bindArgs (mlFn q params body scope cl .none pm cdv ct) ⟨[], []⟩ = pure []
  | true => ∃ a : Str, scope.names.lookup a = some .local ∧ ∀ (q : Str) (cl : List (Str × Addr)) (T : Addr) (pm cdv ct : Value), ∃ k, bindArgs (mlFn q params body scope cl (.ref T) pm cdv ct) ⟨[], []⟩ = seqItems? (.ref T) >>= k ∧ ∀ v, k (some #[v]) = pure [(a, v)]
section
variable {X : Cx} {σ : L2.St} {H : Hp} {s : Shared}
/-- x(), in the def that got the lambda -/
theorem pe_actV {CXg : CXT} {Eg : XK} {Ng : List Str} {qg : Str} {sg : Scope} {g f c' : Addr} {cdg dV pm ctv : Value} {params : Arguments} {body : Expr} {scope : Scope} {k i : Nat} {a : Str} {pn : List (Addr × Obj)} {xe : Value → Shared → Prop} {W : WX} {E : XK} {tb : TE} {p1 p2 : Pos} {d : Option V} {hd : Bool}
    (L : Lam1 X.N X.env.scope scope) (C : Cap X.N σ scope (cloFrom X.env.cells scope.names []) H s.heap) (hl : σ.length = X.N.length) (hbind : BindL params body scope hd) (hdd : d.isSome = hd)
    (tk : Takes ((cxOf CXg X.prog X.w X.K X.mg X.base Ng qg sg g cdg X.A X.stack s H Eg).tr pn xe) W) (hW : ∀ cls d σ' H', E cls d H' → W cls d σ' H') (hr : Room (k + 1) (X.A.deeper (envOfC qg sg s.heap.objs.size g cdg)))
    (hbody : ∀ (A : Around) (outer : List PySem.Env) (s : Shared) (H : Hp), Room k (A.deeper (lamEnv X scope s.heap.objs.size f c')) → PE (lamCx X A outer s H E scope f c') body tb)
    (hN : Ng[i]? = some a) (hv : Vis sg a) (hda : (a == ("__debug__" : Str)) = false := by decide) (hcd : (a == ("__classdict__" : Str)) = false := by decide) :
    PE ((cxOf CXg X.prog X.w X.K X.mg X.base Ng qg sg g cdg X.A X.stack s H Eg).tr pn xe) (.Call (.Name a p1) [] [] p2)
      (fun σZ HZ Q => σZ[i]? = some (some (.ref f)) ∧ HZ c' = some (CodeO c' (X.env.qual ++ "<lambda>")) ∧ (HZ f = some (LamO f (mlObj (X.env.qual ++ "<lambda>") params body scope (cloFrom X.env.cells scope.names []) dV pm c' ctv)) ∧ ((d = none ∧ dV = .none) ∨ ∃ T x, d = some x ∧ dV = .ref T ∧ HZ T = some (.tup [x]))) ∧ tb σ HZ Q) := by
  refine ⟨fun pinsZ sZ σZ HZ Q IZ h => ?_⟩
  obtain ⟨hs, hc, ⟨hfo, hdv⟩, ht⟩ := h
  refine wpAny_Call_Name_kw (thn ((pe_var (pos := p1) (i := i) hN hv hda hcd).run pinsZ sZ σZ HZ (fun v H1 => v = .ref f ∧ H1 = HZ) IZ ⟨.ref f, hs, rfl, rfl⟩) fun u s1 ⟨v, H1, I1, r1, ev, eH⟩ => ?_)
  subst ev
  rw [eH] at I1
  obtain rfl : u = Value.ref f := r1
  have of1 : s1.heap.get? f = some (mlObj (X.env.qual ++ "<lambda>") params body scope (cloFrom X.env.cells scope.names []) dV pm c' ctv) := by
    have z : ObjOk X.prog X.w HZ s1.heap f (.ext fun h => h.get? f = some (mlObj (X.env.qual ++ "<lambda>") params body scope (cloFrom X.env.cells scope.names []) dV pm c' ctv)) := I1.hok f _ hfo
    exact z.1
  refine PySem.W.callWith_F0 ⟨_, _, _, _, of1⟩ ?_
  have un : Un (frs X.stack) [] H HZ s.heap s1.heap := I1.base
  have C1 := C.un un fun _ _ _ => by simp
  obtain ⟨⟨oc, vs, t, hoc, hdc, hvc⟩, _, _⟩ := I1.hok c' _ hc
  have rc : codeAny (model X.prog X.w) (X.A.deeper (envOfC qg sg s.heap.objs.size g cdg)) (.call (.ref f) ⟨[], []⟩) (CR (L2.CX X.prog X.w) (envOfC qg sg s.heap.objs.size g cdg :: X.stack) X.prog X.w HZ s1 Q E) s1 := by
    refine PySem.W.kla_callFunE hr.depth of1 rfl L.co L.gen rfl ⟨c', oc, vs, t, rfl, hoc, hdc, hvc⟩ ?_
    have go : ∀ binds : List (Str × Value), (∀ y ∈ binds, scope.names.lookup y.1 = some .local) → wpAny (model X.prog X.w) (X.A.deeper (envOfC qg sg s.heap.objs.size g cdg)).in1 (newFunctionEnv scope mainGlobals (cloFrom X.env.cells scope.names []) binds (X.env.qual ++ "<lambda>" ++ ".<locals>.") (some f) (.ref c') none builtinsNs)
        (fun env s₂ => s₂.heap.NoLimit ∧ codeAny (model X.prog X.w) (X.A.deeper (envOfC qg sg s.heap.objs.size g cdg)) (.expr body env) (CR (L2.CX X.prog X.w) (envOfC qg sg s.heap.objs.size g cdg :: X.stack) X.prog X.w HZ s1 Q E) s₂) (fun e s' => CR (L2.CX X.prog X.w) (envOfC qg sg s.heap.objs.size g cdg :: X.stack) X.prog X.w HZ s1 Q E (.error e) s') s1 := fun binds hb => by
      refine wpAny_newFunctionEnv (fun y hy => L.nocell y hy) hb (fun h₁ hns hsb => ⟨I1.nolimit.fresh _ hsb, ?_⟩) L.kind
      show codeAny _ _ (.expr body (lamEnv X scope s1.heap.objs.size f c')) _ _
      have kp : ∀ b o, s1.heap.get? b = some o → h₁.get? b = some o := fun b o e => hsb.extBut b o (Nat.ne_of_lt (Heap.lt_size e)) (Heap.get?_push_of_some _ e)
      have J : L2.Inv (lamCx X (X.A.deeper (envOfC qg sg s.heap.objs.size g cdg)) (envOfC qg sg s.heap.objs.size g cdg :: X.stack) s1 HZ E scope f c') [] σ HZ { s1 with heap := h₁, toks := s1.toks + binds.length } :=
        lam_startV L C1 hl I1.env0 hr.hd hns kp
      refine PySem.W.kla_codeExpr (wpAny_mono ((hbody _ _ s1 HZ (hr.deeper _)).run [] _ _ HZ Q J ht) (fun v s' hq => ?_) fun e s' hq => hq)
      obtain ⟨w', H', J', rv, q⟩ := hq
      exact ⟨w', H', J'.os, J'.bare, J'.base, J'.hok, rv, q⟩
    rcases hdv with ⟨rfl, rfl⟩ | ⟨T, x, rfl, rfl, hT⟩
    · cases hdd
      rw [show bindArgs (mlFn (X.env.qual ++ "<lambda>") params body scope (cloFrom X.env.cells scope.names []) .none pm (.ref c') ctv) ⟨[], []⟩ = pure [] from hbind _ _ _ _ _]
      exact wpAny_pure (go [] fun y hy => absurd hy (by simp))
    · cases hdd
      obtain ⟨ad, hla, hb⟩ := hbind
      obtain ⟨kk, e1, e2⟩ := hb (X.env.qual ++ "<lambda>") (cloFrom X.env.cells scope.names []) T pm (.ref c') ctv
      obtain ⟨its, r, ⟨o, ho, _, n, hdt⟩, _⟩ := I1.tuple (SqT.of hT)
      rw [e1]
      refine wpAny_bind (wpAny_seqItems ho hdt ?_)
      cases r with
      | cons r1 r2 =>
        cases r2
        rename_i u
        rw [show kk (some [u].toArray) = pure [(ad, u)] from e2 u]
        exact wpAny_pure (go _ fun y hy => by rw [List.mem_singleton.mp hy]; exact hla)
  have hx : Passes (L2.CX X.prog X.w) ((cxOf CXg X.prog X.w X.K X.mg X.base Ng qg sg g cdg X.A X.stack s H Eg).tr pn xe) E := passes_call tk hW
  refine wpAny_call (codeAny_mono rc fun r s' hq => ?_)
  cases r with
  | error e => exact hx pinsZ σZ HZ s1 e s' I1 hq
  | ok fl =>
    cases fl with
    | ret u => exact I1.after hq
    | next => exact False.elim hq
    | brk => exact False.elim hq
    | cont => exact False.elim hq
end
/-- a lambda of the def: how it is written, what it reads -/
structure LK where
  params : Arguments
  body : Expr
  scope : Scope
  hd : Bool
  t : XK → TE
structure LamK (X : Cx) (j : Nat) (l : LK) : Prop where
  nm : Lam1 X.N X.env.scope l.scope
  bind : BindL l.params l.body l.scope l.hd
  body : ∀ (A : Around) (outer : List PySem.Env) (s : Shared) (H : Hp) (E : XK) (f c' : Addr), Room j (A.deeper (lamEnv X l.scope s.heap.objs.size f c')) → PE (lamCx X A outer s H E l.scope f c') l.body (l.t E)
/-- _law_try(e), e one of the lambdas ls -/
def tTv (X : Cx) (ET : VK → XK) (ls : List LK) (te : TE) (σ : L2.St) : TE := fun σ' H Q => tCons te tNil σ' H fun vs H1 => ∃ (f : Addr) (l : LK) (d : Option V), vs = [.ref f] ∧ l ∈ ls ∧ d.isSome = l.hd ∧ LamAt (linf X l.params l.body l.scope) d H1 f ∧ TTryE ET (fun E H' Q' => l.t E σ H' Q') H1 Q
theorem pe_Tv {X : Cx} {pins : List (Addr × Obj)} {σ : L2.St} {H3 : Hp} {s3 : Shared} {scB : Scope} {ce : PySem.Env} {fp : List Addr} {k j : Nat} {ET : VK → XK} {ls : List LK} {e : Expr} {te : TE} {p pos : Pos} (I3 : L2.Inv X pins σ H3 s3) (hfp : ∀ b ∈ fp, FpOk X pins H3 b)
    (G : GoodT X.prog X.w X.K X.mg X.base k ET) (hg : Gl (X.blk s3 H3 scB ce fp) "_law_try") (hr : Room (k + 1) X.A) (hj : j + 1 ≤ k) (hls : ∀ l ∈ ls, LamK X j l) (he : PE (X.blk s3 H3 scB ce fp) e te)
    (hst : starEach [e] ce = (false, eval e ce) :: starEach [] ce := by rfl) (hpl : (backTo pos (starEach [] ce)).any (·.1) = false := by rfl) :
    PE (X.blk s3 H3 scB ce fp) (.Call (.Name "_law_try" p) [e] [] pos) (tTv X ET ls te σ) := by
  obtain ⟨oc, dV, kV, doc, pm, cdv, ct, an, od, osl, pg, bg, sg, lk, hcg, hb, S, hk, hm, hG⟩ := G
  have hva : Vis sg "ask" := by
    rcases S.par "ask" (by decide) with k | k
    · exact .inl k
    · exact .inr (.inl k)
  refine ⟨fun pinsB sB σB HB Q IB h => ?_⟩
  refine wpAny_Call_Name_kw (ld_glob IB hg hm ?_ (by decide))
  refine PySem.W.callWith_K (h₀ := X.base) IB.ok.mod.kin hk (thn ((pa_cons he pa_nil hst).run pos pinsB sB σB HB _ IB h) fun us s1 hh => ?_) hst hpl
  obtain ⟨vs, H1, I1, r, f, l, d, rfl, hl, hdd, hla, htt⟩ := hh
  refine ⟨I1.kIn, ?_⟩
  obtain ⟨c', dV', pm', ctv, hf, hco, hdv⟩ := hla
  cases r with
  | cons r1 r2 =>
    cases r2
    rename_i u
    obtain rfl : u = Value.ref f := r1
    have K1 := hls l hl
    have C1 : Cap X.N σ l.scope (cloFrom X.env.cells l.scope.names []) H1 s1.heap := (Cap.of I3 K1.nm).un I1.base fun y c hc hm => by
      have := (hfp c hm).2.2.2.2.1 y c (cm_of K1.nm I3.ok hc)
      exact this rfl
    have rc : codeAny (model X.prog X.w) X.A (.call (.ref (He.ga X.K "_law_try")) ⟨[.ref f], []⟩) (CR C8.CX0 X.stack X.prog X.w H1 s1 Q C8.E0) s1 := by
      refine run_ofS (N := ["ask", "e"]) (ps := ["ask"]) (us := [.ref f]) (vs := [.ref f]) lk hcg S hr I1.env0 (hb s1 [.ref f] I1.kIn rfl) (.cons rfl .nil) rfl fun hr' => ?_
      have act := fun (W : WX) (pn : List (Addr × Obj)) (xe : Value → Shared → Prop) (E : XK) (p1 p2 : Pos) tk hW => pe_actV (X := X) (σ := σ) (H := H1) (s := s1) (CXg := C8.CX0) (Eg := C8.E0) (Ng := ["ask", "e"]) (qg := "_law_try") (sg := sg) (g := He.ga X.K "_law_try") (cdg := cdv) (i := 0) (a := "ask") (f := f) (c' := c') (dV := dV') (pm := pm') (ctv := ctv) (k := j) (d := d) (hd := l.hd) (pn := pn) (xe := xe) (W := W) (E := E) (p1 := p1) (p2 := p2) (tb := l.t E)
        K1.nm C1 I3.len K1.bind hdd tk hW (hr'.mono (by omega)) (fun A outer s H hr2 => K1.body A outer s H E f c' hr2) rfl hva
      obtain ⟨t', ht', hq'⟩ := hG (X.blk s3 H3 scB ce fp) (X.env.qual ++ "<lambda>") rfl rfl rfl rfl rfl hr f c' s1 H1 Q (fun E HZ Q' => (HZ f = some (LamO f (mlObj (X.env.qual ++ "<lambda>") l.params l.body l.scope (cloFrom X.env.cells l.scope.names []) dV' pm' c' ctv)) ∧ ((d = none ∧ dV' = .none) ∨ ∃ T x, d = some x ∧ dV' = .ref T ∧ HZ T = some (.tup [x]))) ∧ l.t E σ HZ Q') act hco ⟨⟨hf, hdv⟩, htt⟩
      exact ⟨t', ht'.nox, hq'⟩
    refine wpAny_call (codeAny_mono rc fun r s2 hq => ?_)
    cases r with
    | error e => exact (show False from hq).elim
    | ok fl =>
      cases fl with
      | ret u => exact I1.after hq
      | next => exact False.elim hq
      | brk => exact False.elim hq
      | cont => exact False.elim hq
/-! places in a text -/
def forBody : Stmt → List Stmt
  | .For _ _ b _ _ => b
  | _ => []
def binL : Expr → Expr
  | .BinOp l _ _ _ => l
  | e => e
def binR : Expr → Expr
  | .BinOp _ _ r _ => r
  | e => e
def listEl : Expr → Nat → Expr
  | .List es _, i => es.getD i (.Constant .none 0 ⟨0, 0, 0, 0⟩)
  | e, _ => e
def lamP : Expr → Arguments
  | .Lambda a _ _ _ => a
  | _ => default
def lamB : Expr → Expr
  | .Lambda _ b _ _ => b
  | e => e
def lamS : Expr → Scope
  | .Lambda _ _ s _ => s
  | _ => default
theorem LamK.mk' {X : Cx} {j : Nat} {p : Expr} {hd : Bool} {t : XK → TE} (nm : Lam1 X.N X.env.scope (lamS p)) (bind : BindL (lamP p) (lamB p) (lamS p) hd)
    (body : ∀ (A : Around) (outer : List PySem.Env) (s : Shared) (H : Hp) (E : XK) (f c' : Addr), Room j (A.deeper (lamEnv X (lamS p) s.heap.objs.size f c')) → PE (lamCx X A outer s H E (lamS p) f c') (lamB p) (t E)) : LamK X j ⟨lamP p, lamB p, lamS p, hd, t⟩ := ⟨nm, bind, body⟩
theorem lks_nil {X : Cx} {j : Nat} : ∀ l ∈ ([] : List LK), LamK X j l := fun _ z => absurd z List.not_mem_nil
theorem lks_cons {X : Cx} {j : Nat} {l : LK} {ls : List LK} (h : LamK X j l) (t : ∀ l ∈ ls, LamK X j l) : ∀ x ∈ l :: ls, LamK X j x := List.forall_mem_cons.mpr ⟨h, t⟩
end Bx
-- needs actV
/-! _law_try(e) outside a comprehension, e a lambda's value -/
namespace Bx
open PySem PySem.Spec PyProof.Rows L2 LamX
def ifBody : Stmt → List Stmt
  | .If _ b _ _ => b
  | _ => []
def cmpL : Expr → Expr
  | .Compare l _ _ _ => l
  | e => e
def cmpR : Expr → Expr
  | .Compare _ _ (r :: _) _ => r
  | e => e
def ifTest : Stmt → Expr
  | .If t _ _ _ => t
  | _ => default
def unArg : Expr → Expr
  | .UnaryOp _ e _ => e
  | e => e
def arg0 : Expr → Expr
  | .Call _ (e :: _) _ _ => e
  | _ => default
theorem pe_TvX {X : Cx} {k j : Nat} {ET : VK → XK} {ls : List LK} {e : Expr} {te : TE} {p pos : Pos}
    (G : GoodT X.prog X.w X.K X.mg X.base k ET) (hg : Gl X "_law_try") (hr : Room (k + 1) X.A) (hj : j + 1 ≤ k) (hls : ∀ l ∈ ls, LamK X j l) (he : PE X e te)
    (hst : starEach [e] X.env = (false, eval e X.env) :: starEach [] X.env := by rfl) (hpl : (backTo pos (starEach [] X.env)).any (·.1) = false := by rfl) :
    PE X (.Call (.Name "_law_try" p) [e] [] pos) (fun σ H Q => tTv X ET ls te σ σ H Q) := by
  obtain ⟨oc, dV, kV, doc, pm, cdv, ct, an, od, osl, pg, bg, sg, lk, hcg, hb, S, hk, hm, hG⟩ := G
  have hva : Vis sg "ask" := by
    rcases S.par "ask" (by decide) with k | k
    · exact .inl k
    · exact .inr (.inl k)
  refine ⟨fun pinsB sB σ HB Q IB h => ?_⟩
  refine wpAny_Call_Name_kw (ld_glob IB hg hm ?_ (by decide))
  refine PySem.W.callWith_K (h₀ := X.base) IB.ok.mod.kin hk (thn ((pa_cons he pa_nil hst).run pos pinsB sB σ HB _ IB h) fun us s1 hh => ?_) hst hpl
  obtain ⟨vs, H1, I1, r, f, l, d, rfl, hl, hdd, hla, htt⟩ := hh
  refine ⟨I1.kIn, ?_⟩
  obtain ⟨c', dV', pm', ctv, hf, hco, hdv⟩ := hla
  cases r with
  | cons r1 r2 =>
    cases r2
    rename_i u
    obtain rfl : u = Value.ref f := r1
    have K1 := hls l hl
    have C1 : Cap X.N σ l.scope (cloFrom X.env.cells l.scope.names []) H1 s1.heap := Cap.of I1 K1.nm
    have rc : codeAny (model X.prog X.w) X.A (.call (.ref (He.ga X.K "_law_try")) ⟨[.ref f], []⟩) (CR C8.CX0 X.stack X.prog X.w H1 s1 Q C8.E0) s1 := by
      refine run_ofS (N := ["ask", "e"]) (ps := ["ask"]) (us := [.ref f]) (vs := [.ref f]) lk hcg S hr I1.env0 (hb s1 [.ref f] I1.kIn rfl) (.cons rfl .nil) rfl fun hr' => ?_
      have act := fun (W : WX) (pn : List (Addr × Obj)) (xe : Value → Shared → Prop) (E : XK) (p1 p2 : Pos) tk hW => pe_actV (X := X) (σ := σ) (H := H1) (s := s1) (CXg := C8.CX0) (Eg := C8.E0) (Ng := ["ask", "e"]) (qg := "_law_try") (sg := sg) (g := He.ga X.K "_law_try") (cdg := cdv) (i := 0) (a := "ask") (f := f) (c' := c') (dV := dV') (pm := pm') (ctv := ctv) (k := j) (d := d) (hd := l.hd) (pn := pn) (xe := xe) (W := W) (E := E) (p1 := p1) (p2 := p2) (tb := l.t E)
        K1.nm C1 I1.len K1.bind hdd tk hW (hr'.mono (by omega)) (fun A outer s H hr2 => K1.body A outer s H E f c' hr2) rfl hva
      obtain ⟨t', ht', hq'⟩ := hG X (X.env.qual ++ "<lambda>") rfl rfl rfl rfl rfl hr f c' s1 H1 Q (fun E HZ Q' => (HZ f = some (LamO f (mlObj (X.env.qual ++ "<lambda>") l.params l.body l.scope (cloFrom X.env.cells l.scope.names []) dV' pm' c' ctv)) ∧ ((d = none ∧ dV' = .none) ∨ ∃ T x, d = some x ∧ dV' = .ref T ∧ HZ T = some (.tup [x]))) ∧ l.t E σ HZ Q') act hco ⟨⟨hf, hdv⟩, htt⟩
      exact ⟨t', ht'.nox, hq'⟩
    refine wpAny_call (codeAny_mono rc fun r s2 hq => ?_)
    cases r with
    | error e => exact (show False from hq).elim
    | ok fl =>
      cases fl with
      | ret u => exact I1.after hq
      | next => exact False.elim hq
      | brk => exact False.elim hq
      | cont => exact False.elim hq
end Bx
-- needs clsrules methk
-- imports HandS.ClsMeth HandS.HeadNt
/-! C.m(..) of a staticmethod -/
namespace Bx
open PySem PySem.Spec PyProof.Rows L2
/-- C.m is a staticmethod: its record at p, its def at g -/
structure SMet (K : PySem.W.Frag) (C : Addr) (mc : Value) (m : Str) (p g : Addr) : Prop where
  at_ : PySem.W.findCls K (.ref C) mc m = some (.get (.builtin "staticmethod.__get__") (.ref p) .none (.ref C))
  rc : ∃ rest, PySem.W.recIn K p "staticmethod" = some (.ref g :: rest)
  kp : PySem.W.keepIn K (.ref g) = true
def smetB (K : PySem.W.Frag) (C : Addr) (m : Str) : Bool := He5.wrapB K C "staticmethod" "staticmethod.__get__" m && PySem.W.keepIn K (.ref (He5.wf K C "staticmethod" m))
theorem smetB_ok {K : PySem.W.Frag} {C : Addr} {m : Str} (h : smetB K C m = true) : SMet K C (.type "type") m (He.ma K C m) (He5.wf K C "staticmethod" m) := by
  obtain ⟨h1, h2⟩ := He.ba h
  obtain ⟨h3, h4⟩ := He5.wrapB_ok h1
  exact ⟨h3, h4, h2⟩
section
variable {X : Cx} {CX : CXT} {k n : Nat} {C pa g : Addr} {mc : Value} {ps ks : List Str} {sp : Sp} {E : XK} {m : Str} {pos apos : Pos} {o e : Expr} {es : List Expr} {kws : List Keyword} {t tk : TA} {ta : TE} {gV : List V → List V → List V}
theorem getmethsm_ok {pins : List (Addr × Obj)} {σ : L2.St} {H : Hp} {s : Shared} {A : Around} {E : Value → Shared → Prop} {pl : Sem Bool} {Q : Value × List Value → Shared → Prop} (I : Inv X pins σ H s) (r : ClX.CRead X.K C mc) (k : SMet X.K C mc m pa g)
    (h : ∀ s', Inv X pins σ H s' → Q (.ref g, []) s') : wpAny (model X.prog X.w) A (getMethod (.ref C) m pl) Q E s := by
  obtain ⟨rest, hp⟩ := k.rc
  refine PySem.W.method_cls I.kIn r.ga (PySem.W.cls_bind I.kIn r.rd k.at_ ?_)
  exact wpAny_call (PySem.W.sm_get (s := { s with toks := s.toks + 1 }) I.kIn hp (PySem.W.handed_on rfl (h _ (I.tok _))))
def tSMeth (C : Addr) (sp : Sp) (E : XK) (ta : TE) (t : TA) : TE := fun σ H Q => ta σ H fun x H1 => x = .ref C ∧ t σ H1 fun vs H2 => sp vs H2 Q E
theorem pe_smG {pl : Sem Bool} (he : PE X o ta) (r : ClX.CRead X.K C mc) (c : SMet X.K C mc m pa g) (F : FnR X.prog X.w X.K X.mg X.base CX k g sp) (hr : Room k X.A) (hx : Passes CX X E) (ha : PA X (e :: es) t)
    (hst : starEach (e :: es) X.env = (false, eval e X.env) :: starEach es X.env := by rfl) (hpl : (backTo pos (starEach es X.env)).any (·.1) = false := by rfl)
    (ht : eval (.Call (.Attribute o m apos) (e :: es) [] pos) X.env = (do
      let ov ← eval o X.env
      standAt apos.atName
      let (f, first) ← holding [ov] (getMethod ov m pl)
      callWith pos f first (backTo pos (starEach (e :: es) X.env)) (backToKw pos (keywordEach [] X.env))) := by rfl) :
    PE X (.Call (.Attribute o m apos) (e :: es) [] pos) (tSMeth C sp E ta t) := by
  refine ⟨fun pins s σ H Q I h => ?_⟩
  refine PySem.W.methodCall_KW (pl := pl) (thn (he.run pins s σ H _ I h) fun u s1 ⟨x, H1, I1, rx, ex, q⟩ => ?_) ht
  subst ex
  obtain rfl : u = Value.ref C := rx
  refine getmethsm_ok I1 r c fun s2 I2 => ?_
  refine PySem.W.callWith_K (h₀ := X.base) I2.ok.mod.kin c.kp (thn (ha.run pos pins s2 σ _ _ I2 q) fun us s3 ⟨vs, H2, I3, rv, q2⟩ => ⟨I3.kIn, ?_⟩) hst hpl
  exact wpAny_call (run_fnR F hr hx I3 rv q2)
/-- C.m(k = v, ..) -/
def tSMethN (C : Addr) (nk : Nat) (sp : Sp) (gV : List V → List V → List V) (E : XK) (ta : TE) (tk : TA) : TE := fun σ H Q => ta σ H fun x H1 => x = .ref C ∧ tk σ H1 fun zs H2 => zs.length = nk ∧ sp (gV [] zs) H2 Q E
theorem pe_smN0 {pl : Sem Bool} (he : PE X o ta) (r : ClX.CRead X.K C mc) (c : SMet X.K C mc m pa g) (G : GoodMN X.prog X.w X.K X.mg X.base CX k g 0 ks ps gV sp) (hr : Room k X.A) (hx : Passes CX X E) (hkw : PK X kws tk)
    (hall : (backToKw pos (keywordEach kws X.env)).all (·.1.isSome) = true := by rfl) (hks : (backToKw pos (keywordEach kws X.env)).filterMap (·.1) = ks := by rfl)
    (hpl : ((backTo pos (starEach [] X.env)).any (·.1) || (backToKw pos (keywordEach kws X.env)).any (·.1.isNone)) = false := by rfl)
    (ht : eval (.Call (.Attribute o m apos) [] kws pos) X.env = (do
      let ov ← eval o X.env
      standAt apos.atName
      let (f, first) ← holding [ov] (getMethod ov m pl)
      callWith pos f first (backTo pos (starEach [] X.env)) (backToKw pos (keywordEach kws X.env))) := by rfl) :
    PE X (.Call (.Attribute o m apos) [] kws pos) (tSMethN C ks.length sp gV E ta tk) := by
  obtain ⟨fd, F, g', hb⟩ := G
  refine ⟨fun pins s σ H Q I h => ?_⟩
  refine PySem.W.methodCall_KW (pl := pl) (thn (he.run pins s σ H _ I h) fun u s1 ⟨x, H1, I1, rx, ex, q⟩ => ?_) ht
  subst ex
  obtain rfl : u = Value.ref C := rx
  refine getmethsm_ok I1 r c fun s2 I2 => ?_
  refine PySem.W.callWith_KW0 (first := []) (h₀ := X.base) I2.ok.mod.kin c.kp hall (thn (hkw.run pos pins s2 σ _ _ I2 q) fun ws s3 ⟨zs, H3, I3, rz, l2, q3⟩ => ⟨I3.kIn, ?_⟩) hpl
  rw [hks]
  exact run_fnN (us := []) (vs := []) F hr hb hx I3 .nil rz rfl l2 q3
end
end Bx
namespace Lw
open PySem PySem.Spec PyProof.Rows L2 Bx
section
variable {P : Program} {w : World} {K : PySem.W.Frag} {mg : Str → Option Value} {base : Heap}
/-! ### the exception Ended -/
theorem okx_Ended (E : En K mg) (MP : MainP P "/claim/cut.py") (SS : SaysS fns K) : GoodI EB.ve P w K mg base CX0 1 (He.ga K "Ended") "Ended" ["self", "name"] (spI1 (He.ga K "Ended") "Ended" "name" OkF) := by
  obtain ⟨e, cc⟩ := SS.def_ 1 (d := dx_Ended) rfl
  obtain ⟨kV, doc, pm, ct, an, cd, cl, T, hcd, EX⟩ := DefS.get (d := dx_Ended) MP ⟨_, rfl, rfl⟩ rfl rfl e cc
  refine ⟨_, _, EX, init_ok (N := ["self", "name"]) (ps := ["self", "name"]) (k := 0) (pl := fun _ _ _ => do return (← (pure (some false) : Sem (Option Bool))).getD true) T hcd ⟨rfl, rfl, rfl, by decide, rfl, by decide +kernel, by decide +kernel, by decide +kernel, by rfl, by rfl⟩ (E.fr "super") rfl (by rfl) (fun vs H Q E' h => ?_) (fun A outer s H vs Q E' hr h => ?_) (fun _ => rfl) (fun _ => rfl) (fun _ => rfl) (fun _ => rfl), Binds.all (fun us hl => match us, hl with | [_, _], _ => rfl), E.gl "Ended"⟩
  · obtain ⟨a, v, rfl, _⟩ := h; rfl
  obtain ⟨a, v, rfl, ha, ok, k⟩ := h
  refine ⟨a, _, _, rfl, ha, pa_cons (pe_joined (.cons pe_str (.cons (pe_fmtO hr (pv 1)) .nil))) pa_nil, pss_cons (ps_ostG (b := EB.ve) (pv 0) pe_str) (pss_one (ps_ostG (b := EB.ve) (pv 0) (pv 1))), ?_⟩
  refine fmt_okA rfl ?_ ok fun out => ?_
  · decide +kernel
  refine ⟨by show 1 ≤ 1000; decide, ha, .ref a, rfl, a, _, rfl, EX.oex, EX.tag, .inl ⟨ha, fun dx hd hne => ?_⟩⟩
  exact ⟨v, rfl, .ref a, rfl, a, _, rfl, EX.oex, En.xno_Ended_name E, .inr ⟨dx, _, upd_same, by rw [upd_ne hne, upd_same], by show 1 ≤ 900; decide, k dx hd hne⟩⟩

/-! ### the exception NothingLeft -/
theorem okx_NothingLeft (E : En K mg) (MP : MainP P "/claim/cut.py") (SS : SaysS fns K) : GoodI EB.ie P w K mg base CX0 1 (He.ga K "NothingLeft") "NothingLeft" ["self"] (spI0 (He.ga K "NothingLeft") "NothingLeft") := by
  obtain ⟨e, cc⟩ := SS.def_ 0 (d := dx_NothingLeft) rfl
  obtain ⟨kV, doc, pm, ct, an, cd, cl, T, hcd, EX⟩ := DefS.get (d := dx_NothingLeft) MP ⟨_, rfl, rfl⟩ rfl rfl e cc
  refine ⟨_, _, EX, init_ok (N := ["self"]) (ps := ["self"]) (k := 0) (pl := fun _ _ _ => do return (← (pure (some false) : Sem (Option Bool))).getD true) T hcd ⟨rfl, rfl, rfl, by decide, rfl, by decide +kernel, by decide +kernel, by decide +kernel, by rfl, by rfl⟩ (E.fr "super") rfl (by rfl) (fun vs H Q E' h => ?_) (fun A outer s H vs Q E' hr h => ?_) (fun _ => rfl) (fun _ => rfl) (fun _ => rfl) (fun _ => rfl), Binds.all (fun us hl => match us, hl with | [_], _ => rfl), E.gl "NothingLeft"⟩
  · obtain ⟨a, rfl, _⟩ := h; rfl
  obtain ⟨a, rfl, ha, k⟩ := h
  refine ⟨a, _, _, rfl, ha, pa_cons pe_str pa_nil, pss_one (ps_ostG (b := EB.ie) (pv 0) pe_str), ?_⟩
  exact ⟨by show 1 ≤ 1000; decide, ha, .ref a, rfl, a, _, rfl, EX.oex, EX.tag, .inl ⟨ha, k⟩⟩

/-! ### _law_field -/

theorem sc__law_field : FnScope ["e"] ["e"] (defScope s__law_field) := ⟨rfl, rfl, rfl, by decide +kernel, rfl, by decide +kernel, by decide +kernel⟩
theorem ok__law_field (E : En K mg) : GoodA P w K mg base 1 "_law_field" ["e"] (sp_field K) := by
  obtain ⟨fd, F⟩ := E.says.def_ 0 (d := d__law_field) rfl
  refine ⟨fd, ?_, F.bindsN fun _ _ _ _ _ _ us hl => match us, hl with | [_], _ => rfl, F.kp, E.gl "_law_field"⟩
  refine F.okA sc__law_field (fun vs H Q E' h => ?_) (fun cdv A outer s H vs Q E' hr h => ?_)
  · obtain ⟨a, C, dd, fs, tag, v, rfl, _⟩ := h; rfl
  · refine ⟨_, PSs.nox (pss_cons (ps_if (pt_cmpR op_in_seq (pe_xT (n := "tag") (pv 0) rfl) (pe_lst (pa_cons pe_str (pa_cons pe_str pa_nil))) (by rfl))
        (pss_one (ps_ret (pe_xT (n := "given") (pv 0) rfl)))
        pss_nil)
      (pss_cons (ps_if (pt_cmpR op_in_seq (pe_xT (n := "tag") (pv 0) rfl) (pe_lst (pa_cons pe_str (pa_cons pe_str (pa_cons pe_str (pa_cons pe_str (pa_cons pe_str (pa_cons pe_str (pa_cons pe_str pa_nil)))))))) (by rfl))
        (pss_one (ps_ret (pe_xT (n := "name") (pv 0) rfl)))
        pss_nil)
      (pss_cons (ps_if (pt_cmpR op_in_seq (pe_xT (n := "tag") (pv 0) rfl) (pe_lst (pa_cons pe_str (pa_cons pe_str (pa_cons pe_str pa_nil)))) (by rfl))
        (pss_one (ps_ret (pe_xT (n := "limit") (pv 0) rfl)))
        pss_nil)
      (pss_cons (ps_if (pt_cmpR op_eq (pe_xT (n := "tag") (pv 0) rfl) pe_str (nomark _))
        (pss_one (ps_ret (pe_xT (n := "line") (pv 0) rfl)))
        pss_nil)
      (pss_cons (ps_if (pt_cmpR op_eq (pe_xT (n := "tag") (pv 0) rfl) pe_str (nomark _))
        (pss_one (ps_ret (pe_xT (n := "word") (pv 0) rfl)))
        pss_nil)
      (pss_cons (ps_if (pt_cmpR op_eq (pe_xT (n := "tag") (pv 0) rfl) pe_str (nomark _))
        (pss_one (ps_ret (pe_xT (n := "place") (pv 0) rfl)))
        pss_nil)
      (pss_cons (ps_if (pt_cmpR op_eq (pe_xT (n := "tag") (pv 0) rfl) pe_str (nomark _))
        (pss_one (ps_ret (pe_xT (n := "most") (pv 0) rfl)))
        pss_nil)
      (pss_one (ps_ret (pe_ifExp (pt_cmpR op_eq (pe_xT (n := "tag") (pv 0) rfl) pe_str (nomark _)) (pe_xT (n := "row") (pv 0) rfl) pe_non)))))))))), ?_⟩
    obtain ⟨a, C, dd, fs, tag, v, rfl, ha, T, ht, hd, l, fo, k⟩ := h
    have e0 : Same H H := Same.refl _
    unfold FldOk fldOf at fo
    refine ⟨_, rfl, a, C, dd, fs, .str tag, rfl, ha, T, ht, hd, l, (by show 2 ≤ sizeLine; decide), fun l1 h1 => ⟨l1, _, rfl, .inl (SqL.of upd_same), rfl, rfl, _, rfl, ?_⟩⟩
    have e1 := same_new (o := .lst [.str "InvalidPair", .str "InvalidCount"]) h1
    cases c1 : inV (.str tag) [.str "InvalidPair", .str "InvalidCount"] with
    | true =>
      rw [if_pos c1] at fo
      obtain ⟨f1, f2⟩ := fo
      exact ite_t (by rfl) ⟨_, rfl, a, C, dd, fs, v, rfl, e1 _ _ ha, T, f1, e1 _ _ hd, f2, k _ e1⟩
    | false =>
    rw [if_neg (by rw [c1]; exact Bool.false_ne_true)] at fo
    refine ite_f (by rfl) ?_
    refine ⟨_, rfl, a, C, dd, fs, .str tag, rfl, e1 _ _ ha, T, ht, e1 _ _ hd, l, (by show 7 ≤ sizeLine; decide), fun l2 h2 => ⟨l2, _, rfl, .inl (SqL.of upd_same), rfl, rfl, _, rfl, ?_⟩⟩
    have e2 := e1.trans (same_new (o := .lst [.str "InvalidName", .str "DuplicateName", .str "InUse", .str "WrongKind", .str "Ring", .str "UnknownName", .str "Ended"]) h2)
    cases c2 : inV (.str tag) [.str "InvalidName", .str "DuplicateName", .str "InUse", .str "WrongKind", .str "Ring", .str "UnknownName", .str "Ended"] with
    | true =>
      rw [if_pos c2] at fo
      obtain ⟨f1, f2⟩ := fo
      exact ite_t (by rfl) ⟨_, rfl, a, C, dd, fs, v, rfl, e2 _ _ ha, T, f1, e2 _ _ hd, f2, k _ e2⟩
    | false =>
    rw [if_neg (by rw [c2]; exact Bool.false_ne_true)] at fo
    refine ite_f (by rfl) ?_
    refine ⟨_, rfl, a, C, dd, fs, .str tag, rfl, e2 _ _ ha, T, ht, e2 _ _ hd, l, (by show 3 ≤ sizeLine; decide), fun l3 h3 => ⟨l3, _, rfl, .inl (SqL.of upd_same), rfl, rfl, _, rfl, ?_⟩⟩
    have e3 := e2.trans (same_new (o := .lst [.str "InvalidLimit", .str "CapacityExceeded", .str "TooLong"]) h3)
    cases c3 : inV (.str tag) [.str "InvalidLimit", .str "CapacityExceeded", .str "TooLong"] with
    | true =>
      rw [if_pos c3] at fo
      obtain ⟨f1, f2⟩ := fo
      exact ite_t (by rfl) ⟨_, rfl, a, C, dd, fs, v, rfl, e3 _ _ ha, T, f1, e3 _ _ hd, f2, k _ e3⟩
    | false =>
    rw [if_neg (by rw [c3]; exact Bool.false_ne_true)] at fo
    refine ite_f (by rfl) ?_
    refine ⟨_, rfl, a, C, dd, fs, .str tag, rfl, e3 _ _ ha, T, ht, e3 _ _ hd, l, rfl, _, rfl, ?_⟩
    cases c4 : decide (V.str tag = V.str "InvalidProgram") with
    | true =>
      rw [if_pos c4] at fo
      obtain ⟨f1, f2⟩ := fo
      exact ite_t (by first | exact c4 | rfl) ⟨_, rfl, a, C, dd, fs, v, rfl, e3 _ _ ha, T, f1, e3 _ _ hd, f2, k _ e3⟩
    | false =>
    rw [if_neg (by rw [c4]; exact Bool.false_ne_true)] at fo
    refine ite_f (by first | exact c4 | rfl) ?_
    refine ⟨_, rfl, a, C, dd, fs, .str tag, rfl, e3 _ _ ha, T, ht, e3 _ _ hd, l, rfl, _, rfl, ?_⟩
    cases c5 : decide (V.str tag = V.str "InvalidCommand") with
    | true =>
      rw [if_pos c5] at fo
      obtain ⟨f1, f2⟩ := fo
      exact ite_t (by first | exact c5 | rfl) ⟨_, rfl, a, C, dd, fs, v, rfl, e3 _ _ ha, T, f1, e3 _ _ hd, f2, k _ e3⟩
    | false =>
    rw [if_neg (by rw [c5]; exact Bool.false_ne_true)] at fo
    refine ite_f (by first | exact c5 | rfl) ?_
    refine ⟨_, rfl, a, C, dd, fs, .str tag, rfl, e3 _ _ ha, T, ht, e3 _ _ hd, l, rfl, _, rfl, ?_⟩
    cases c6 : decide (V.str tag = V.str "InvalidItem") with
    | true =>
      rw [if_pos c6] at fo
      obtain ⟨f1, f2⟩ := fo
      exact ite_t (by first | exact c6 | rfl) ⟨_, rfl, a, C, dd, fs, v, rfl, e3 _ _ ha, T, f1, e3 _ _ hd, f2, k _ e3⟩
    | false =>
    rw [if_neg (by rw [c6]; exact Bool.false_ne_true)] at fo
    refine ite_f (by first | exact c6 | rfl) ?_
    refine ⟨_, rfl, a, C, dd, fs, .str tag, rfl, e3 _ _ ha, T, ht, e3 _ _ hd, l, rfl, _, rfl, ?_⟩
    cases c7 : decide (V.str tag = V.str "Heavy") with
    | true =>
      rw [if_pos c7] at fo
      obtain ⟨f1, f2⟩ := fo
      exact ite_t (by first | exact c7 | rfl) ⟨_, rfl, a, C, dd, fs, v, rfl, e3 _ _ ha, T, f1, e3 _ _ hd, f2, k _ e3⟩
    | false =>
    rw [if_neg (by rw [c7]; exact Bool.false_ne_true)] at fo
    refine ite_f (by first | exact c7 | rfl) ?_
    refine ⟨_, rfl, a, C, dd, fs, .str tag, rfl, e3 _ _ ha, T, ht, e3 _ _ hd, l, rfl, _, rfl, ?_⟩
    cases c8 : decide (V.str tag = V.str "ParseError") with
    | true =>
      rw [if_pos c8] at fo
      obtain ⟨f1, f2⟩ := fo
      exact ite_t (by first | exact c8 | rfl) ⟨_, rfl, a, C, dd, fs, v, rfl, e3 _ _ ha, T, f1, e3 _ _ hd, f2, k _ e3⟩
    | false =>
    rw [if_neg (by rw [c8]; exact Bool.false_ne_true)] at fo
    refine ite_f (by first | exact c8 | rfl) ?_
    rw [← (show v = .non from fo)]
    exact k _ e3


/-! ### _law_try -/

theorem sc__law_try : FnScope ["ask", "e"] ["ask"] (defScope s__law_try) := ⟨rfl, rfl, rfl, by decide +kernel, rfl, by decide +kernel, by decide +kernel⟩
theorem ok__law_try (E : En K mg) (G__law_field : GoodA P w K mg base 1 "_law_field" ["e"] (sp_field K)) : GoodT P w K mg base 14 (ETryN K (He.ga K "PathError") (He.ga K "Missing") (He.ga K "NothingLeft")) := by
  obtain ⟨fd, F⟩ := E.says.def_ 1 (d := d__law_try) rfl
  refine good_try F (F.bindsN fun _ _ _ _ _ _ us hl => match us, hl with | [_], _ => rfl) sc__law_try (E.gl "_law_try") (fun X q cdv h1 h2 h3 h4 h5 hr => ?_)
  subst h1 h2 h3 h4 h5
  exact try_givesN G__law_field hr (by decide) (by rfl) (by rfl) (E.gl "PathError") (by rfl) (E.gl "Missing") (by rfl) (E.gl "NothingLeft") (by rfl)


/-! ### _law_pull -/
/-- a draw: some number from 0 on and below the amount; the bag alone has changed -/
def sp__law_pull (K : PySem.W.Frag) : Sp := fun vs H Q _ => ∃ (b : Addr) (n : Int), vs = [.ref b, .int n] ∧ Bag H b ∧ 0 < n ∧ n < 1298074214633706907132624082305024 ∧ ∀ (r : Int) (H' : Hp), 0 ≤ r → r < n → Bag H' b → Kp b H H' → Q (.int r) H'
theorem at4_0 (a b c d : V) : atI [a, b, c, d] 0 = some a := rfl
theorem at4_1 (a b c d : V) : atI [a, b, c, d] 1 = some b := rfl
theorem at4_2 (a b c d : V) : atI [a, b, c, d] 2 = some c := rfl
theorem at4_3 (a b c d : V) : atI [a, b, c, d] 3 = some d := rfl
/-- the bag behind the first if -/
def pullMid (b : Addr) (n : Int) (H : Hp) : L2.St → Hp → Prop := fun σ H' => Bag H' b ∧ Kp b H H' ∧ ∃ v, σ = [some (.ref b), some (.int n), v, none, none]
theorem bag_put {H : Hp} {b c : Addr} {xs : List Int} {i hold seed : Int} {o : HO} (h : o = .lst [.ref c, .int i, .int hold, .int seed]) (h2 : H c = some (.lst (xs.map V.int))) (ne : b ≠ c) (h3 : xs.length ≤ 63) (h4 : 0 ≤ i) (h5 : 0 ≤ hold) (h6 : 0 ≤ seed) (h7 : seed < 2147483647) : Bag (upd H b o) b :=
  ⟨c, xs, i, hold, seed, by rw [upd_same, h], by rw [upd_ne ne.symm]; exact h2, ne, h3, h4, h5, h6, h7⟩

theorem sc__law_pull : FnScope ["bag", "amount", "cell", "got", "seed"] ["bag", "amount"] (defScope s__law_pull) := ⟨rfl, rfl, rfl, by decide +kernel, rfl, by decide +kernel, by decide +kernel⟩
theorem ok__law_pull (E : En K mg) : Good P w K mg base CX0 1 "_law_pull" ["bag", "amount"] (sp__law_pull K) := by
  obtain ⟨fd, F⟩ := E.says.def_ 2 (d := d__law_pull) rfl
  refine ⟨fd, ?_, F.bindsN fun _ _ _ _ _ _ us hl => match us, hl with | [_, _], _ => rfl, F.kp, E.gl "_law_pull"⟩
  refine F.ok sc__law_pull (fun vs H Q E' h => ?_) (fun cdv A outer s H vs Q E' hr h => ?_)
  · obtain ⟨b, n, rfl, _⟩ := h; rfl
  · have hu64 := hu64_of hr
    refine ⟨_, PSs.nox (C8.pss_cut (ps_if (PW.pt (pw_and (pt_cmpR op_eq (pe_ix ix_list (pv 0) pe_int (fun _ _ => rfl)) pe_int (nomark _)) (pw_and1 (pt_cmpR op_lt (pe_ix ix_list (pv 0) pe_int (fun _ _ => rfl)) (pe_callB call_len_seq (by rfl) (E.fr "len") (by decide +kernel) (pa_cons (pe_ix ix_list (pv 0) pe_int (fun _ _ => rfl)) pa_nil)) (nomark _)))))
        (pss_cons (ps_set (i := 2) sc__law_pull.nd rfl (by first | exact Or.inl rfl | exact Or.inr rfl) (pe_ix ix_list (pe_ix ix_list (pv 0) pe_int (fun _ _ => rfl)) (pe_ix ix_list (pv 0) pe_int (fun _ _ => rfl)) (fun _ _ => rfl)))
      (pss_cons (ps_asg (pe_op op_add (pe_ix ix_list (pv 0) pe_int (fun _ _ => rfl)) pe_int) (pg_sub (pv 0) pe_int set_list))
      (pss_one (ps_if (pt_cmpR op_ge (pv 2) (pe_op op_pow pe_int pe_int) (nomark _))
        (pss_one (ps_asg (pv 2) (pg_sub (pv 0) pe_int set_list)))
        (pss_one (ps_asg (pe_op op_mod (pe_callTy call_int1 (by rfl) (E.fr "int") (by decide +kernel) (pa_cons (pe_op op_add (pe_op op_add (pe_op op_mul (pe_ix ix_list (pv 0) pe_int (fun _ _ => rfl)) pe_int) (pe_op op_mul (pe_op op_mod (pe_callTy call_int1 (by rfl) (E.fr "int") (by decide +kernel) (pa_cons (pv 2) pa_nil)) pe_int) pe_int)) pe_int) pa_nil)) pe_int) (pg_sub (pv 0) pe_int set_list)))))))
        pss_nil)
      (pss_cons (ps_if (pt_cmpR op_gt (pe_ix ix_list (pv 0) pe_int (fun _ _ => rfl)) pe_int (nomark _))
        (pss_cons (ps_set (i := 3) sc__law_pull.nd rfl (by first | exact Or.inl rfl | exact Or.inr rfl) (pe_op op_mod (pe_callTy call_int1 (by rfl) (E.fr "int") (by decide +kernel) (pa_cons (pe_ix ix_list (pv 0) pe_int (fun _ _ => rfl)) pa_nil)) (pv 1)))
      (pss_cons (ps_asg (pe_op op_fdivW (pe_ix ix_list (pv 0) pe_int (fun _ _ => rfl)) (pv 1)) (pg_sub (pv 0) pe_int set_list))
      (pss_one (ps_ret (pv 3)))))
        pss_nil)
      (pss_cons (ps_set (i := 4) sc__law_pull.nd rfl (by first | exact Or.inl rfl | exact Or.inr rfl) (pe_ix ix_list (pv 0) pe_int (fun _ _ => rfl)))
      (pss_cons (ps_asg (pe_op op_mod (pe_callTy call_int1 (by rfl) (E.fr "int") (by decide +kernel) (pa_cons (pe_op op_add (pe_op op_add (pe_op op_mul (pv 4) (pv 4)) (pe_op op_mul (pv 4) pe_int)) pe_int) pa_nil)) pe_int) (pg_sub (pv 0) pe_int set_list))
      (pss_one (ps_ret (pe_op op_mod (pe_callTy call_int1 (by rfl) (E.fr "int") (by decide +kernel) (pa_cons (pe_op op_add (pe_op op_fdiv (pe_ix ix_list (pv 0) pe_int (fun _ _ => rfl)) pe_int) (pe_op op_mul (pe_op op_mod (pe_callTy call_int1 (by rfl) (E.fr "int") (by decide +kernel) (pa_cons (pe_ix ix_list (pv 0) pe_int (fun _ _ => rfl)) pa_nil)) pe_int) pe_int)) pa_nil)) (pv 1)))))))), ?_⟩
    obtain ⟨b, n, rfl, B, hn, hn2, k⟩ := h
    refine ⟨pullMid b n H, ?_, ?_⟩
    · obtain ⟨c, xs, i, hold, seed, h1, h2, ne, h3, h4, h5, h6, h7⟩ := B.ex
      refine ⟨_, rfl, b, _, _, _, rfl, rfl, SqL.of h1, at4_2 _ _ _ _, rfl, _, rfl, ?_⟩
      by_cases c0 : hold = 0
      · subst c0
        refine ite_t (deq rfl) ?_
        refine ⟨_, rfl, b, _, _, _, rfl, rfl, SqL.of h1, at4_1 _ _ _ _, _, rfl, b, _, _, _, rfl, rfl, SqL.of h1, at4_0 _ _ _ _, c, _, rfl, .inl (SqL.of h2), _, _, rfl, rfl, _, rfl, ?_⟩
        refine ite2 (fun cl => ?_) (fun _ => ⟨B, Kp.refl _ _, _, rfl⟩)
        have cl' : i < ((xs.map V.int).length : Int) := of_decide_eq_true cl
        rw [List.length_map] at cl'
        have hi : i.toNat < xs.length := by omega
        have ei : ((i.toNat : Nat) : Int) = i := by omega
        have ha : atI (xs.map V.int) i = some (.int xs[i.toNat]) := by
          have q : atI (xs.map V.int) ((i.toNat : Nat) : Int) = some (.int xs[i.toNat]) := atI_nat (by rw [List.getElem?_map, List.getElem?_eq_getElem hi] <;> rfl)
          rw [ei] at q
          exact q
        -- cell = bag[0][bag[1]]
        refine ⟨_, rfl, b, _, _, _, rfl, rfl, SqL.of h1, at4_0 _ _ _ _, _, rfl, b, _, _, _, rfl, rfl, SqL.of h1, at4_1 _ _ _ _, c, _, _, _, rfl, rfl, SqL.of h2, ha, ?_⟩
        -- bag[1] = bag[1] + 1
        refine ⟨_, rfl, b, _, _, _, rfl, rfl, SqL.of h1, at4_1 _ _ _ _, _, _, rfl, rfl, _, rfl, b, _, _, 1, rfl, rfl, h1, rfl, ?_⟩
        have g1 : (upd H b (.lst [.ref c, .int (i + 1), .int 0, .int seed])) b = some (.lst [.ref c, .int (i + 1), .int 0, .int seed]) := upd_same
        have g2 : (upd H b (.lst [.ref c, .int (i + 1), .int 0, .int seed])) c = some (.lst (xs.map V.int)) := by rw [upd_ne ne.symm]; exact h2
        -- if cell >= 10 ** 18
        refine ⟨_, rfl, _, _, rfl, rfl, ⟨by decide, by decide, by decide⟩, _, _, rfl, rfl, _, rfl, ?_⟩
        refine ite2 (fun cc => ?_) (fun _ => ?_)
        · have cc' : (10 : Int) ^ (18 : Int).toNat ≤ xs[i.toNat] := of_decide_eq_true cc
          have c0 : 0 ≤ xs[i.toNat] := Int.le_trans (by decide) cc'
          refine ⟨_, rfl, _, rfl, b, _, _, 2, rfl, rfl, g1, rfl, ?_⟩
          exact ⟨bag_put rfl g2 ne h3 (by omega) c0 h6 h7, (Kp.put h1).trans (Kp.put g1), _, rfl⟩
        · refine ⟨_, rfl, b, _, _, _, rfl, rfl, SqL.of g1, at4_3 _ _ _ _, _, _, rfl, rfl, .inr ⟨by decide, by decide⟩, _, rfl, .inl ⟨_, rfl, _, _, rfl, rfl, (by show (0 : Int) < _; decide), _, _, rfl, rfl, .inr ⟨by decide, by decide⟩, _, _, rfl, rfl, _, _, rfl, rfl, .inl ⟨_, rfl, _, _, rfl, rfl, (by show (0 : Int) < _; decide), ?_⟩⟩⟩
          refine ⟨_, rfl, b, _, _, 3, rfl, rfl, g1, rfl, ?_⟩
          have q := emod_bd (seed * 40699 + xs[i.toNat] % 2147483587 * 69691 + 13) (m := 2147483647) (by decide)
          exact ⟨bag_put rfl g2 ne h3 (by omega) (by decide) q.1 q.2, (Kp.put h1).trans (Kp.put g1), _, rfl⟩
      · exact ite_f (dne c0) (ite_f rfl ⟨B, Kp.refl _ _, _, rfl⟩)
    · rintro σ H1 ⟨B1, kp, v, rfl⟩
      obtain ⟨c, xs, i, hold, seed, h1, h2, ne, h3, h4, h5, h6, h7⟩ := B1.ex
      refine ⟨_, rfl, b, _, _, _, rfl, rfl, SqL.of h1, at4_2 _ _ _ _, _, _, rfl, rfl, _, rfl, ?_⟩
      refine ite2 (fun _ => ?_) (fun _ => ?_)
      · -- got = int(bag[2]) % amount; bag[2] = bag[2] // amount; return got
        refine ⟨_, rfl, b, _, _, _, rfl, rfl, SqL.of h1, at4_2 _ _ _ _, .inl ⟨_, rfl, _, rfl, _, _, rfl, rfl, hn, ?_⟩⟩
        refine ⟨_, rfl, b, _, _, _, rfl, rfl, SqL.of h1, at4_2 _ _ _ _, _, rfl, _, _, rfl, rfl, wide_div hn (b := 110) (by omega) (by decide) (by decide), _, rfl, b, _, _, 2, rfl, rfl, h1, rfl, _, rfl, ?_⟩
        have q := emod_bd hold (m := n) hn
        exact k _ _ q.1 q.2 (bag_put rfl h2 ne h3 h4 (Int.ediv_nonneg h5 (by omega)) h6 h7) (kp.trans (Kp.put h1))
      · -- seed = bag[3]
        refine ⟨_, rfl, b, _, _, _, rfl, rfl, SqL.of h1, at4_3 _ _ _ _, ?_⟩
        refine ⟨_, rfl, _, rfl, _, _, rfl, rfl, .inr ⟨by omega, by omega⟩, _, rfl, _, _, rfl, rfl, .inr ⟨by decide, by decide⟩, _, _, rfl, rfl, _, _, rfl, rfl, .inl ⟨_, rfl, _, _, rfl, rfl, (by show (0 : Int) < _; decide), _, rfl, b, _, _, 3, rfl, rfl, h1, rfl, ?_⟩⟩
        have g1 : ∀ z : Int, (upd H1 b (.lst [.ref c, .int i, .int hold, .int z])) b = some (.lst [.ref c, .int i, .int hold, .int z]) := fun _ => upd_same
        refine ⟨_, rfl, b, _, _, _, rfl, rfl, SqL.of (g1 _), at4_3 _ _ _ _, _, _, rfl, rfl, ⟨by decide, by decide⟩, _, rfl, b, _, _, _, rfl, rfl, SqL.of (g1 _), at4_3 _ _ _ _, .inl ⟨_, rfl, _, _, rfl, rfl, (by show (0 : Int) < _; decide), _, _, rfl, rfl, .inr ⟨by decide, by decide⟩, _, _, rfl, rfl, .inl ⟨_, rfl, _, rfl, _, _, rfl, rfl, hn, ?_⟩⟩⟩
        have q := emod_bd (seed * seed + seed * 48271 + 1013904227) (m := 2147483647) (by decide)
        have r := emod_bd ((seed * seed + seed * 48271 + 1013904227) % 2147483647 / 97 + (seed * seed + seed * 48271 + 1013904227) % 2147483647 % 8191 * 67) (m := n) hn
        exact k _ _ r.1 r.2 (bag_put rfl h2 ne h3 h4 h5 q.1 q.2) (kp.trans (Kp.put h1))

/-! ### _law_same -/
/-- no list or tuple is long -/
abbrev small : PyData → Bool := smallD
/-- two values of the same data -/
def spSame (n : Nat) (K : PySem.W.Frag) : Sp := fun vs H Q _ => ∃ (u v : V) (d : PyData), vs = [u, v] ∧ Dp K H u d ∧ Dp K H v d ∧ d.depth < n ∧ small d = true ∧ ∀ H', Same H H' → Q (.bl true) H'
def sp__law_same (K : PySem.W.Frag) : Sp := spSame 12 K

theorem sc__law_same : FnScope ["found", "due", "a", "b"] ["found", "due"] (defScope s__law_same) := ⟨rfl, rfl, rfl, by decide +kernel, rfl, by decide +kernel, by decide +kernel⟩
/-- lists within are short -/
theorem depth_get : ∀ {ds : List PyData} {i : Nat} {d : PyData}, ds[i]? = some d → d.depth ≤ PyData.depthAll ds
  | [], _, _, h => by cases h
  | _ :: _, 0, _, h => by
    cases h
    rw [PyData.depthAll]
    exact Nat.le_max_left _ _
  | _ :: ds, i + 1, _, h => by
    rw [PyData.depthAll]
    exact Nat.le_trans (depth_get (ds := ds) (i := i) (by simpa using h)) (Nat.le_max_right _ _)
theorem walk_zipT {K : PySem.W.Frag} {a b : Addr} {xs ys : List V} {n : Nat} (hn : n = min xs.length ys.length) : Walk (RZ.ItzT K a b) n (fun H => SqT K H a xs ∧ SqT K H b ys) (YPair (fun i => xs[i]?) (fun i => ys[i]?)) := by
  subst hn
  refine ⟨fun i _ hi q => ?_, fun _ q => ⟨xs, ys, q.1, q.2, by omega⟩, fun i H v H' _ q y => ?_⟩
  · have h1 : i < xs.length := by omega
    have h2 : i < ys.length := by omega
    exact ⟨xs, ys, xs[i], ys[i], q.1, q.2, by simp [h1], by simp [h2]⟩
  · obtain ⟨T, x, z, h1, h2, h3, h4, h5⟩ := y
    exact ⟨T, x, z, h1, h2, h3, h4 xs q.1, h5 ys q.2⟩
theorem same_step {n : Nat} (E : En K mg) (G__law_same : Good P w K mg base CX0 n "_law_same" ["found", "due"] (spSame n K)) : Good P w K mg base CX0 (n + 1) "_law_same" ["found", "due"] (spSame (n + 1) K) := by
  obtain ⟨fd, F⟩ := E.says.def_ 3 (d := d__law_same) rfl
  refine ⟨fd, ?_, F.bindsN fun _ _ _ _ _ _ us hl => match us, hl with | [_, _], _ => rfl, F.kp, E.gl "_law_same"⟩
  refine F.ok sc__law_same (fun vs H Q E' h => ?_) (fun cdv A outer s H vs Q E' hr h => ?_)
  · obtain ⟨u, v, d, rfl, _⟩ := h; rfl
  refine ⟨_, PSs.nox (pss_cons (ps_if (PW.pt (pw_or (pt_val (pe_callB call_isi (by rfl) (E.fr "isinstance") (by decide +kernel) (pa_cons (pv 1) (pa_cons (pe_bltn (v := .ty "list") (by rfl) (E.fr "list") (by decide +kernel) rfl) pa_nil)))) (pw_or1 (pt_val (pe_callB call_isi (by rfl) (E.fr "isinstance") (by decide +kernel) (pa_cons (pv 1) (pa_cons (pe_bltn (v := .ty "tuple") (by rfl) (E.fr "tuple") (by decide +kernel) rfl) pa_nil)))))))
        (pss_cons (ps_if (PW.pt (pw_or (pt_cmpR op_ne (pe_callB call_isi (by rfl) (E.fr "isinstance") (by decide +kernel) (pa_cons (pv 0) (pa_cons (pe_bltn (v := .ty "list") (by rfl) (E.fr "list") (by decide +kernel) rfl) pa_nil))) (pe_callB call_isi (by rfl) (E.fr "isinstance") (by decide +kernel) (pa_cons (pv 1) (pa_cons (pe_bltn (v := .ty "list") (by rfl) (E.fr "list") (by decide +kernel) rfl) pa_nil))) (nomark _)) (pw_or1 (pt_cmpR op_ne (pe_callB call_isi (by rfl) (E.fr "isinstance") (by decide +kernel) (pa_cons (pv 0) (pa_cons (pe_bltn (v := .ty "tuple") (by rfl) (E.fr "tuple") (by decide +kernel) rfl) pa_nil))) (pe_callB call_isi (by rfl) (E.fr "isinstance") (by decide +kernel) (pa_cons (pv 1) (pa_cons (pe_bltn (v := .ty "tuple") (by rfl) (E.fr "tuple") (by decide +kernel) rfl) pa_nil))) (nomark _)))))
        (pss_one (ps_ret pe_bl))
        pss_nil)
      (pss_one (ps_ret (pe_and (pe_cmpR op_eq (pe_callB call_len_seq (by rfl) (E.fr "len") (by decide +kernel) (pa_cons (pv 0) pa_nil)) (pe_callB call_len_seq (by rfl) (E.fr "len") (by decide +kernel) (pa_cons (pv 1) pa_nil)) (nomark _)) (pe_one (pe_callB (show CallR _ _ (rAll K) from cr_all rfl) (by rfl) (E.fr "all") (by decide +kernel) (pa_cons (pe_lc (own := [("a", 2), ("b", 3)]) (by rfl) sc__law_same.nd (RZ.pi_zipA (by rfl) (E.fr "zip") (pa_cons (pv 0) (pa_cons (pv 1) pa_nil))) (blkOk_by (N := ["found", "due", "a", "b"]) (sc := defScope s__law_same) (by decide +kernel)) (by exact fun _ _ _ _ _ => (show PG _ _ (gTup K 2 _) from pg_tup (n := 2) rfl (pgs_cons (pg_name (i := 2) sc__law_same.nd rfl (by first | exact Or.inl rfl | exact Or.inr rfl)) (pgs_cons (pg_name (i := 3) sc__law_same.nd rfl (by first | exact Or.inl rfl | exact Or.inr rfl)) pgs_nil)))) (by exact fun _ _ _ _ _ => pts_nil) (by exact fun _ _ _ _ _ => (pe_G G__law_same hr rfl pass0 (pa_cons (pv 2) (pa_cons (pv 3) pa_nil))))) pa_nil)))))))
        pss_nil)
      (pss_cons (ps_if (PW.pt (pw_or (pt_cmpR op_isN (pv 1) pe_non (nomark _)) (pw_or1 (pt_cmpR op_isN (pv 0) pe_non (nomark _)))))
        (pss_one (ps_ret (pe_and (pe_cmpR op_isN (pv 1) pe_non (nomark _)) (pe_one (pe_cmpR op_isN (pv 0) pe_non (nomark _))))))
        pss_nil)
      (pss_cons (ps_if (PW.pt (pw_or (pt_cmpR op_ne (pe_callB call_isi (by rfl) (E.fr "isinstance") (by decide +kernel) (pa_cons (pv 0) (pa_cons (pe_bltn (v := .ty "bool") (by rfl) (E.fr "bool") (by decide +kernel) rfl) pa_nil))) (pe_callB call_isi (by rfl) (E.fr "isinstance") (by decide +kernel) (pa_cons (pv 1) (pa_cons (pe_bltn (v := .ty "bool") (by rfl) (E.fr "bool") (by decide +kernel) rfl) pa_nil))) (nomark _)) (pw_or1 (pt_cmpR op_ne (pe_callB call_isi (by rfl) (E.fr "isinstance") (by decide +kernel) (pa_cons (pv 0) (pa_cons (pe_bltn (v := .ty "int") (by rfl) (E.fr "int") (by decide +kernel) rfl) pa_nil))) (pe_callB call_isi (by rfl) (E.fr "isinstance") (by decide +kernel) (pa_cons (pv 1) (pa_cons (pe_bltn (v := .ty "int") (by rfl) (E.fr "int") (by decide +kernel) rfl) pa_nil))) (nomark _)))))
        (pss_one (ps_ret pe_bl))
        pss_nil)
      (pss_one (ps_ret (pe_and (pe_cmpR op_eq (pe_callB call_isi (by rfl) (E.fr "isinstance") (by decide +kernel) (pa_cons (pv 0) (pa_cons (pe_bltn (v := .ty "str") (by rfl) (E.fr "str") (by decide +kernel) rfl) pa_nil))) (pe_callB call_isi (by rfl) (E.fr "isinstance") (by decide +kernel) (pa_cons (pv 1) (pa_cons (pe_bltn (v := .ty "str") (by rfl) (E.fr "str") (by decide +kernel) rfl) pa_nil))) (nomark _)) (pe_one (pe_cmpR op_eq (pv 0) (pv 1) (nomark _))))))))), ?_⟩
  obtain ⟨u, v, d, rfl, hu, hv, hd, hl, k⟩ := h
  rcases d with _ | bb | ii | ss | ds | ds | kv
  · -- none
    cases hv
    cases hu
    have t0 : TyX K H (V.non) (.type "NoneType") := .base .non
    refine ⟨_, rfl, _, _, _, _, false, rfl, .ty _, t0, kit_ty (by decide +kernel), _, rfl, ?_⟩
    refine ite_f rfl ⟨_, rfl, _, _, _, _, false, rfl, .ty _, t0, kit_ty (by decide +kernel), _, rfl, ?_⟩
    refine ite_f rfl ⟨_, rfl, rfl, _, rfl, ?_⟩
    refine ⟨_, rfl, rfl, _, rfl, ?_⟩
    refine ite_t rfl ⟨_, rfl, rfl, ?_⟩
    exact k H (Same.refl H)
  · -- bool
    cases hv
    cases hu
    have t0 : TyX K H (V.bl bb) (.type "bool") := .base (.bl bb)
    refine ⟨_, rfl, _, _, _, _, false, rfl, .ty _, t0, kit_ty (by decide +kernel), _, rfl, ?_⟩
    refine ite_f rfl ⟨_, rfl, _, _, _, _, false, rfl, .ty _, t0, kit_ty (by decide +kernel), _, rfl, ?_⟩
    refine ite_f rfl ⟨_, rfl, rfl, _, rfl, ?_⟩
    refine ite_f rfl ⟨_, rfl, rfl, _, rfl, ?_⟩
    refine ite_f rfl ⟨_, rfl, _, _, _, _, true, rfl, .ty _, t0, kit_ty (by decide +kernel), _, rfl, _, _, _, _, true, rfl, .ty _, t0, kit_ty (by decide +kernel), rfl, _, rfl, ?_⟩
    refine ite_f rfl ⟨_, rfl, _, _, _, _, true, rfl, .ty _, t0, kit_ty (by decide +kernel), _, rfl, _, _, _, _, true, rfl, .ty _, t0, kit_ty (by decide +kernel), rfl, _, rfl, ?_⟩
    refine ite_f rfl ⟨_, rfl, _, _, _, _, false, rfl, .ty _, t0, kit_ty (by decide +kernel), _, rfl, _, _, _, _, false, rfl, .ty _, t0, kit_ty (by decide +kernel), rfl, _, rfl, ?_⟩
    refine ite_t rfl ⟨_, rfl, _, rfl, rfl, ?_⟩
    rw [decide_eq_true (Eq.refl _)]
    exact k H (Same.refl H)
  · -- int
    cases hv
    cases hu
    have t0 : TyX K H (V.int ii) (.type "int") := .base (.int ii)
    refine ⟨_, rfl, _, _, _, _, false, rfl, .ty _, t0, kit_ty (by decide +kernel), _, rfl, ?_⟩
    refine ite_f rfl ⟨_, rfl, _, _, _, _, false, rfl, .ty _, t0, kit_ty (by decide +kernel), _, rfl, ?_⟩
    refine ite_f rfl ⟨_, rfl, rfl, _, rfl, ?_⟩
    refine ite_f rfl ⟨_, rfl, rfl, _, rfl, ?_⟩
    refine ite_f rfl ⟨_, rfl, _, _, _, _, false, rfl, .ty _, t0, kit_ty (by decide +kernel), _, rfl, _, _, _, _, false, rfl, .ty _, t0, kit_ty (by decide +kernel), rfl, _, rfl, ?_⟩
    refine ite_f rfl ⟨_, rfl, _, _, _, _, true, rfl, .ty _, t0, kit_ty (by decide +kernel), _, rfl, _, _, _, _, true, rfl, .ty _, t0, kit_ty (by decide +kernel), rfl, _, rfl, ?_⟩
    refine ite_f rfl ⟨_, rfl, _, _, _, _, false, rfl, .ty _, t0, kit_ty (by decide +kernel), _, rfl, _, _, _, _, false, rfl, .ty _, t0, kit_ty (by decide +kernel), rfl, _, rfl, ?_⟩
    refine ite_t rfl ⟨_, rfl, _, rfl, rfl, ?_⟩
    rw [decide_eq_true (Eq.refl _)]
    exact k H (Same.refl H)
  · -- str
    cases hv
    cases hu
    have t0 : TyX K H (V.str ss) (.type "str") := .base (.str ss)
    refine ⟨_, rfl, _, _, _, _, false, rfl, .ty _, t0, kit_ty (by decide +kernel), _, rfl, ?_⟩
    refine ite_f rfl ⟨_, rfl, _, _, _, _, false, rfl, .ty _, t0, kit_ty (by decide +kernel), _, rfl, ?_⟩
    refine ite_f rfl ⟨_, rfl, rfl, _, rfl, ?_⟩
    refine ite_f rfl ⟨_, rfl, rfl, _, rfl, ?_⟩
    refine ite_f rfl ⟨_, rfl, _, _, _, _, false, rfl, .ty _, t0, kit_ty (by decide +kernel), _, rfl, _, _, _, _, false, rfl, .ty _, t0, kit_ty (by decide +kernel), rfl, _, rfl, ?_⟩
    refine ite_f rfl ⟨_, rfl, _, _, _, _, false, rfl, .ty _, t0, kit_ty (by decide +kernel), _, rfl, _, _, _, _, false, rfl, .ty _, t0, kit_ty (by decide +kernel), rfl, _, rfl, ?_⟩
    refine ite_f rfl ⟨_, rfl, _, _, _, _, true, rfl, .ty _, t0, kit_ty (by decide +kernel), _, rfl, _, _, _, _, true, rfl, .ty _, t0, kit_ty (by decide +kernel), rfl, _, rfl, ?_⟩
    refine ite_t rfl ⟨_, rfl, _, rfl, rfl, ?_⟩
    rw [decide_eq_true (Eq.refl _)]
    exact k H (Same.refl H)
  · -- a list
    cases hv with
    | lst hv1 hv2 =>
    cases hu with
    | lst hu1 hu2 =>
    rename_i a xs b ys
    have tu := tyL hu1
    have tv := tyL hv1
    have hl := small_ofL hl
    have h0 : PyData.depthAll ds < n := by
      rw [PyData.depth] at hd
      omega
    have l1 := DpAll.length hu2
    have l2 := DpAll.length hv2
    refine ⟨_, rfl, _, _, _, _, true, rfl, .ty _, tv, kit_ty (by decide +kernel), _, rfl, ?_⟩
    refine ⟨_, rfl, _, _, _, _, true, rfl, .ty _, tu, kit_ty (by decide +kernel), _, rfl, _, _, _, _, true, rfl, .ty _, tv, kit_ty (by decide +kernel), rfl, _, rfl, ?_⟩
    refine ite_f rfl ⟨_, rfl, _, _, _, _, false, rfl, .ty _, tu, kit_ty (by decide +kernel), _, rfl, _, _, _, _, false, rfl, .ty _, tv, kit_ty (by decide +kernel), rfl, _, rfl, ?_⟩
    refine ite_f rfl ?_
    -- len(found) == len(due) and all([..])
    refine ⟨_, rfl, _, _, rfl, (.inl hu1), _, rfl, _, _, rfl, (.inl hv1), rfl, _, rfl, ?_⟩
    refine ite_t (decide_eq_true (by rw [l1, l2])) ?_
    refine ⟨_, rfl, _, rfl, _, _, _, _, rfl, (.inl ⟨hu1, hv1, fun D hD => ?_⟩)⟩
    refine lc_it (walk_zip (n := ds.length) (by rw [l1, l2, Nat.min_self])) (fun i H' => Same H H' ∧ H' D = some (.lst (List.replicate i (V.bl true)))) ⟨same_new hD, upd_same⟩ (fun i H' _ q => ⟨q.1.seq hu1, q.1.seq hv1⟩) ?_ ?_
    · rintro i x H2 H3 hi ⟨e2, g2⟩ ⟨T, u1, v1, rfl, hT, rfl, q1, q2⟩
      have e3 : Same H (upd H2 T (.tup [u1, v1])) := e2.trans (same_new hT)
      obtain ⟨d1, r1, s1⟩ := DpAll.get hu2 q1
      obtain ⟨d2, r2, s2⟩ := DpAll.get hv2 q2
      have ed : d2 = d1 := Option.some.inj (r2.symm.trans r1)
      subst ed
      refine ⟨T, _, rfl, SqT.of upd_same, rfl, _, _, rfl, _, _, rfl, rfl, rfl, ?_⟩
      refine ⟨_, rfl, _, rfl, u1, v1, d2, rfl, Dp.same e3 s1, Dp.same e3 s2, Nat.lt_of_le_of_lt (depth_get r1) h0, hl.2 r1, fun H4 e4 => ?_⟩
      refine ⟨_, e4 _ _ (by rw [upd_ne (ne_of_none g2 hT)]; exact g2), ?_, same_mut (e3.trans e4) hD, ?_⟩
      · rw [List.length_replicate]
        exact szl (Nat.lt_of_lt_of_le hi (Nat.le_trans hl.1 (by decide)))
      · rw [upd_same, List.replicate_succ']
    · rintro H2 ⟨e2, g2⟩
      refine ⟨D, List.replicate ds.length true, rfl, SqL.of (by rw [List.map_replicate]; exact g2), ?_⟩
      rw [show (List.replicate ds.length true).all id = true by simp]
      exact k H2 e2
  · -- a tuple
    cases hv with
    | tup hv1 hv2 =>
    cases hu with
    | tup hu1 hu2 =>
    rename_i a xs b ys
    have tu := tyT hu1
    have tv := tyT hv1
    have hl := small_ofT hl
    have h0 : PyData.depthAll ds < n := by
      rw [PyData.depth] at hd
      omega
    have l1 := DpAll.length hu2
    have l2 := DpAll.length hv2
    refine ⟨_, rfl, _, _, _, _, false, rfl, .ty _, tv, kit_ty (by decide +kernel), _, rfl, ?_⟩
    refine ite_f rfl ⟨_, rfl, _, _, _, _, true, rfl, .ty _, tv, kit_ty (by decide +kernel), _, rfl, ?_⟩
    refine ⟨_, rfl, _, _, _, _, false, rfl, .ty _, tu, kit_ty (by decide +kernel), _, rfl, _, _, _, _, false, rfl, .ty _, tv, kit_ty (by decide +kernel), rfl, _, rfl, ?_⟩
    refine ite_f rfl ⟨_, rfl, _, _, _, _, true, rfl, .ty _, tu, kit_ty (by decide +kernel), _, rfl, _, _, _, _, true, rfl, .ty _, tv, kit_ty (by decide +kernel), rfl, _, rfl, ?_⟩
    refine ite_f rfl ?_
    -- len(found) == len(due) and all([..])
    refine ⟨_, rfl, _, _, rfl, (.inr hu1), _, rfl, _, _, rfl, (.inr hv1), rfl, _, rfl, ?_⟩
    refine ite_t (decide_eq_true (by rw [l1, l2])) ?_
    refine ⟨_, rfl, _, rfl, _, _, _, _, rfl, (.inr ⟨hu1, hv1, fun D hD => ?_⟩)⟩
    refine lc_it (walk_zipT (n := ds.length) (by rw [l1, l2, Nat.min_self])) (fun i H' => Same H H' ∧ H' D = some (.lst (List.replicate i (V.bl true)))) ⟨same_new hD, upd_same⟩ (fun i H' _ q => ⟨seqT q.1 hu1, seqT q.1 hv1⟩) ?_ ?_
    · rintro i x H2 H3 hi ⟨e2, g2⟩ ⟨T, u1, v1, rfl, hT, rfl, q1, q2⟩
      have e3 : Same H (upd H2 T (.tup [u1, v1])) := e2.trans (same_new hT)
      obtain ⟨d1, r1, s1⟩ := DpAll.get hu2 q1
      obtain ⟨d2, r2, s2⟩ := DpAll.get hv2 q2
      have ed : d2 = d1 := Option.some.inj (r2.symm.trans r1)
      subst ed
      refine ⟨T, _, rfl, SqT.of upd_same, rfl, _, _, rfl, _, _, rfl, rfl, rfl, ?_⟩
      refine ⟨_, rfl, _, rfl, u1, v1, d2, rfl, Dp.same e3 s1, Dp.same e3 s2, Nat.lt_of_le_of_lt (depth_get r1) h0, hl.2 r1, fun H4 e4 => ?_⟩
      refine ⟨_, e4 _ _ (by rw [upd_ne (ne_of_none g2 hT)]; exact g2), ?_, same_mut (e3.trans e4) hD, ?_⟩
      · rw [List.length_replicate]
        exact szl (Nat.lt_of_lt_of_le hi (Nat.le_trans hl.1 (by decide)))
      · rw [upd_same, List.replicate_succ']
    · rintro H2 ⟨e2, g2⟩
      refine ⟨D, List.replicate ds.length true, rfl, SqL.of (by rw [List.map_replicate]; exact g2), ?_⟩
      rw [show (List.replicate ds.length true).all id = true by simp]
      exact k H2 e2
  · cases hu
theorem same_none (E : En K mg) : Good P w K mg base CX0 0 "_law_same" ["found", "due"] (spSame 0 K) := by
  obtain ⟨fd, F⟩ := E.says.def_ 3 (d := d__law_same) rfl
  have no : ∀ vs H Q E', ¬ spSame 0 K vs H Q E' := fun vs H Q E' h => by
    obtain ⟨u, v, d, _, _, _, hd, _⟩ := h
    omega
  exact ⟨fd, ⟨fun vs H Q E' h => absurd h (no vs H Q E'), fun A outer s H args us vs Q E' _ _ _ _ h => absurd h (no vs H Q E')⟩, F.bindsN fun _ _ _ _ _ _ us hl => match us, hl with | [_, _], _ => rfl, F.kp, E.gl "_law_same"⟩
theorem same_all (E : En K mg) : ∀ n : Nat, Good P w K mg base CX0 n "_law_same" ["found", "due"] (spSame n K)
  | 0 => same_none E
  | n + 1 => same_step E (same_all E n)
theorem ok__law_same (E : En K mg) : Good P w K mg base CX0 12 "_law_same" ["found", "due"] (sp__law_same K) := same_all E 12


/-! ### Runner.outcome -/
def sp_Runner_outcome (K : PySem.W.Frag) : Sp := fun vs H Q _ => ∃ (a C : Addr) (s : RSt) (hs : List RSt), vs = [.ref a] ∧ RunX K C H a s hs ∧ Q (outV s.out) H

theorem sc_Runner_outcome : FnScope ["self"] ["self"] (defScope s_Runner_outcome) := ⟨rfl, rfl, rfl, by decide +kernel, rfl, by decide +kernel, by decide +kernel⟩
theorem ok_Runner_outcome (E : En K mg) : GoodM P w K mg base CX0 1 (He5.wf K (He.ga K "Runner") "property" "outcome") ["self"] (sp_Runner_outcome K) := by
  obtain ⟨fd, F⟩ := E.saysA.def_ 0 (d := d_Runner_outcome) rfl
  refine ⟨fd, ?_, F.bindsN fun _ _ _ _ _ _ us hl => match us, hl with | [_], _ => rfl⟩
  refine F.ok sc_Runner_outcome (fun vs H Q E' h => ?_) (fun cdv A outer s H vs Q E' hr h => ?_)
  · obtain ⟨a, C, s, hs, rfl, _⟩ := h; rfl
  · have hu64 := hu64_of hr
    refine ⟨_, PSs.nox (pss_one (ps_ret (pe_ix ix_tup (pe_fld (pv 0) (by rfl)) pe_int (fun _ _ => rfl)))), ?_⟩
    obtain ⟨a, C, s, hs, rfl, ⟨more, pl, rl, p, us, ls, hR⟩, k⟩ := h
    have rc := hR.rc
    obtain ⟨dx, v, ps, h1, h2, h3, h4⟩ := hR.ex
    obtain ⟨sa, vp, pv, rfl, hS, hP, hV⟩ := Dp.rst h2
    exact ⟨_, rfl, a, _, dx, _, _, rfl, h1, rc.cls, rc.n3, rfl, sa, _, _, _, rfl, rfl, hS, at_3 _ _ _ _ _, k⟩

/-! ### Runner.at -/
def atV (s : RSt) : V := match s.out with
  | none => .int (s.at_ : Int)
  | some _ => .non
def sp_Runner_at (K : PySem.W.Frag) : Sp := fun vs H Q _ => ∃ (a C : Addr) (s : RSt) (hs : List RSt), vs = [.ref a] ∧ RunX K C H a s hs ∧ Q (atV s) H

theorem sc_Runner_at : FnScope ["self"] ["self"] (defScope s_Runner_at) := ⟨rfl, rfl, rfl, by decide +kernel, rfl, by decide +kernel, by decide +kernel⟩
theorem ok_Runner_at (E : En K mg) : GoodM P w K mg base CX0 1 (He5.wf K (He.ga K "Runner") "property" "at") ["self"] (sp_Runner_at K) := by
  obtain ⟨fd, F⟩ := E.saysA.def_ 1 (d := d_Runner_at) rfl
  refine ⟨fd, ?_, F.bindsN fun _ _ _ _ _ _ us hl => match us, hl with | [_], _ => rfl⟩
  refine F.ok sc_Runner_at (fun vs H Q E' h => ?_) (fun cdv A outer s H vs Q E' hr h => ?_)
  · obtain ⟨a, C, s, hs, rfl, _⟩ := h; rfl
  · have hu64 := hu64_of hr
    refine ⟨_, PSs.nox (pss_one (ps_ret (pe_ifExp (pt_cmpR op_isN (pe_ix ix_tup (pe_fld (pv 0) (by rfl)) pe_int (fun _ _ => rfl)) pe_non (nomark _)) (pe_ix ix_tup (pe_fld (pv 0) (by rfl)) pe_int (fun _ _ => rfl)) pe_non))), ?_⟩
    obtain ⟨a, C, s, hs, rfl, ⟨more, pl, rl, p, us, ls, hR⟩, k⟩ := h
    have rc := hR.rc
    obtain ⟨dx, v, ps, h1, h2, h3, h4⟩ := hR.ex
    obtain ⟨sa, vp, pv, rfl, hS, hP, hV⟩ := Dp.rst h2
    refine ⟨_, rfl, a, _, dx, _, _, rfl, h1, rc.cls, rc.n3, rfl, sa, _, _, _, rfl, rfl, hS, at_3 _ _ _ _ _, rfl, _, rfl, ?_⟩
    unfold atV at k
    cases ho : s.out with
    | none =>
      rw [ho] at k
      refine ite_t (by rfl) ⟨_, rfl, a, _, dx, _, _, rfl, h1, rc.cls, rc.n3, rfl, sa, _, _, _, rfl, rfl, hS, at_0 _ _, k⟩
    | some z =>
      rw [ho] at k
      exact ite_f (by rfl) k

/-! ### Runner.pair -/
def sp_Runner_pair (K : PySem.W.Frag) : Sp := fun vs H Q _ => ∃ (a C : Addr) (s : RSt) (hs : List RSt), vs = [.ref a] ∧ RunX K C H a s hs ∧ ∀ v, PairAt K H v s.x s.y → Q v H

theorem sc_Runner_pair : FnScope ["self"] ["self"] (defScope s_Runner_pair) := ⟨rfl, rfl, rfl, by decide +kernel, rfl, by decide +kernel, by decide +kernel⟩
theorem ok_Runner_pair (E : En K mg) : GoodM P w K mg base CX0 1 (He5.wf K (He.ga K "Runner") "property" "pair") ["self"] (sp_Runner_pair K) := by
  obtain ⟨fd, F⟩ := E.saysA.def_ 2 (d := d_Runner_pair) rfl
  refine ⟨fd, ?_, F.bindsN fun _ _ _ _ _ _ us hl => match us, hl with | [_], _ => rfl⟩
  refine F.ok sc_Runner_pair (fun vs H Q E' h => ?_) (fun cdv A outer s H vs Q E' hr h => ?_)
  · obtain ⟨a, C, s, hs, rfl, _⟩ := h; rfl
  · have hu64 := hu64_of hr
    refine ⟨_, PSs.nox (pss_one (ps_ret (pe_ix ix_tup (pe_fld (pv 0) (by rfl)) pe_int (fun _ _ => rfl)))), ?_⟩
    obtain ⟨a, C, s, hs, rfl, ⟨more, pl, rl, p, us, ls, hR⟩, k⟩ := h
    have rc := hR.rc
    obtain ⟨dx, v, ps, h1, h2, h3, h4⟩ := hR.ex
    obtain ⟨sa, vp, pv, rfl, hS, hP, hV⟩ := Dp.rst h2
    exact ⟨_, rfl, a, _, dx, _, _, rfl, h1, rc.cls, rc.n3, rfl, sa, _, _, _, rfl, rfl, hS, at_1 _ _ _, k _ hP⟩

/-! ### Runner.steps -/
def sp_Runner_steps (K : PySem.W.Frag) : Sp := fun vs H Q _ => ∃ (a C : Addr) (s : RSt) (hs : List RSt), vs = [.ref a] ∧ RunX K C H a s hs ∧ Q (.int (hs.length : Int)) H

theorem sc_Runner_steps : FnScope ["self"] ["self"] (defScope s_Runner_steps) := ⟨rfl, rfl, rfl, by decide +kernel, rfl, by decide +kernel, by decide +kernel⟩
theorem ok_Runner_steps (E : En K mg) : GoodM P w K mg base CX0 1 (He5.wf K (He.ga K "Runner") "property" "steps") ["self"] (sp_Runner_steps K) := by
  obtain ⟨fd, F⟩ := E.saysA.def_ 3 (d := d_Runner_steps) rfl
  refine ⟨fd, ?_, F.bindsN fun _ _ _ _ _ _ us hl => match us, hl with | [_], _ => rfl⟩
  refine F.ok sc_Runner_steps (fun vs H Q E' h => ?_) (fun cdv A outer s H vs Q E' hr h => ?_)
  · obtain ⟨a, C, s, hs, rfl, _⟩ := h; rfl
  · have hu64 := hu64_of hr
    refine ⟨_, PSs.nox (pss_one (ps_ret (pe_callB call_len_seq (by rfl) (E.fr "len") (by decide +kernel) (pa_cons (pe_fld (pv 0) (by rfl)) pa_nil)))), ?_⟩
    obtain ⟨a, C, s, hs, rfl, ⟨more, pl, rl, p, us, ls, hR⟩, k⟩ := h
    have rc := hR.rc
    obtain ⟨dx, v, ps, h1, h2, h3, h4⟩ := hR.ex
    have hpl : ps.length = hs.length := by
      have := DpAll.length h4
      rw [List.length_map] at this
      exact this
    rw [← hpl] at k
    exact ⟨_, rfl, a, _, dx, _, _, rfl, h1, rc.cls, rc.n4, rfl, pl, _, rfl, .inl (SqL.of h3), k⟩

/-! ### CountingRunner.counts -/
/-- a new list of the counts -/
def sp_CountingRunner_counts (K : PySem.W.Frag) : Sp := fun vs H Q _ => ∃ (a pl rl p dl : Addr) (us : List V) (ls : List Lin) (s : RSt) (hs : List RSt), vs = [.ref a] ∧ CouP K (He.ga K "CountingRunner") H a pl rl p dl us ls s hs ∧
  ∀ q, H q = none → Q (.ref q) (upd H q (.lst ((cntL ls.length hs).map fun n : Nat => V.int (n : Int))))

theorem sc_CountingRunner_counts : FnScope ["self"] ["self"] (defScope s_CountingRunner_counts) := ⟨rfl, rfl, rfl, by decide +kernel, rfl, by decide +kernel, by decide +kernel⟩
theorem ok_CountingRunner_counts (E : En K mg) : GoodM P w K mg base CX0 1 (He.ma K (He.ga K "CountingRunner") "counts") ["self"] (sp_CountingRunner_counts K) := by
  obtain ⟨fd, F⟩ := E.says.def_ 4 (d := d_CountingRunner_counts) rfl
  refine ⟨fd, ?_, F.bindsN fun _ _ _ _ _ _ us hl => match us, hl with | [_], _ => rfl⟩
  refine F.ok sc_CountingRunner_counts (fun vs H Q E' h => ?_) (fun cdv A outer s H vs Q E' hr h => ?_)
  · obtain ⟨a, pl, rl, p, dl, us, ls, s, hs, rfl, _⟩ := h; rfl
  · have hu64 := hu64_of hr
    refine ⟨_, PSs.nox (pss_one (ps_ret (pe_callTy call_list_of (by rfl) (E.fr "list") (by decide +kernel) (pa_cons (pe_fld (pv 0) (by rfl)) pa_nil)))), ?_⟩
    obtain ⟨a, pl, rl, p, dl, us, ls, s, hs, rfl, hC, k⟩ := h
    obtain ⟨dx, v', ps, h1, h2, h3, h4⟩ := hC.run.ex
    exact ⟨_, rfl, a, _, dx, _, _, rfl, h1, En.cls_CountingRunner E, En.noat_CountingRunner_done E, rfl, dl, _, rfl, .inl (SqL.of hC.don), k⟩

/-! ### Runner.back -/
theorem rst_depth (s : RSt) : s.d.depth ≤ 2 := by
  have h : ∀ ns : List Nat, PyData.depthAll (ns.map fun n : Nat => PyData.int (n : Int)) ≤ 0 := fun ns => by
    induction ns with
    | nil => exact Nat.le_refl _
    | cons n ns ih =>
      rw [List.map_cons, PyData.depthAll]
      exact Nat.max_le.mpr ⟨Nat.le_refl _, ih⟩
  have := h s.vs
  unfold RSt.d natsT
  cases s.out with
  | none =>
    simp only [outD, PyData.depth, PyData.depthAll]
    omega
  | some z =>
    simp only [outD, PyData.depth, PyData.depthAll]
    omega
theorem rst_lay (s : RSt) (ho : s.out = none) : s.d.canLay0 = true := by
  have h : ∀ ns : List Nat, PyData.canLayAll0 (ns.map fun n : Nat => PyData.int (n : Int)) = true := canLay_map fun _ => rfl
  have := h s.vs
  unfold RSt.d natsT
  rw [ho]
  simp only [outD, PyData.canLay0, PyData.canLayAll0, this]
  rfl
theorem rsts_lay : ∀ l : List RSt, (∀ t ∈ l, t.out = none) → PyData.canLayAll0 (l.map RSt.d) = true
  | [], _ => by simp [PyData.canLayAll0]
  | x :: l, h => by
    rw [List.map_cons, PyData.canLayAll0, rst_lay x (h x List.mem_cons_self), rsts_lay l fun t ht => h t (List.mem_cons_of_mem _ ht)]
    rfl
theorem rsts_depth : ∀ l : List RSt, PyData.depthAll (l.map RSt.d) ≤ 2
  | [] => Nat.zero_le _
  | p :: l => by
    rw [List.map_cons, PyData.depthAll]
    exact Nat.max_le.mpr ⟨rst_depth p, rsts_depth l⟩
theorem rsts_shaped (l : List RSt) (ho : ∀ t ∈ l, t.out = none) : SeqAt.shaped (.list (l.map RSt.d)) = true := by
  have dp := rsts_depth l
  unfold SeqAt.shaped
  have h : (PyData.list (l.map RSt.d)).canLay0 = true := by
    rw [PyData.canLay0]
    exact rsts_lay l ho
  have d : (PyData.list (l.map RSt.d)).depth ≤ 3 := by
    show PyData.depthAll (l.map RSt.d) + 1 ≤ 3
    omega
  rw [h, decide_eq_true (by omega)]
  rfl
theorem eqv_rsts (l : List RSt) : PyData.eqv (.list (l.map RSt.d)) (.list []) = decide (l = []) := by
  cases l with
  | nil => rfl
  | cons a l => rfl
/-- the last step taken back, or none -/
def sp_Runner_back (K : PySem.W.Frag) : Sp := fun vs H Q E => ∃ (a pl rl p C : Addr) (more : List (Str × V)) (us : List V) (ls : List Lin) (s : RSt) (hs : List RSt), vs = [.ref a] ∧ RunP K C more H a pl rl p us ls s hs ∧ hs.length ≤ 1000 ∧ (∀ t ∈ hs, t.out = none) ∧
  ((hs = [] ∧ ∀ H1, Same H H1 → ∀ d, H1 d = none → E (.ref (He.ga K "NothingLeft")) (some d) (upd H1 d (.xd [("tag", .str "NothingLeft")]))) ∨
   ∃ hs' t, hs = hs' ++ [t] ∧ ∀ H', MvR a pl H H' → RunP K C more H' a pl rl p us ls t hs' → Q (.int (t.at_ : Int)) H')

theorem sc_Runner_back : FnScope ["self"] ["self"] (defScope s_Runner_back) := ⟨rfl, rfl, rfl, by decide +kernel, rfl, by decide +kernel, by decide +kernel⟩
theorem ok_Runner_back (E : En K mg) (X_NothingLeft : GoodI EB.ie P w K mg base CX0 1 (He.ga K "NothingLeft") "NothingLeft" ["self"] (spI0 (He.ga K "NothingLeft") "NothingLeft")) : GoodM P w K mg base (L2.CX P w) 3 (He.ma K (He.ga K "Runner") "back") ["self"] (sp_Runner_back K) := by
  obtain ⟨fd, F⟩ := E.says.def_ 5 (d := d_Runner_back) rfl
  refine ⟨fd, ?_, F.bindsN fun _ _ _ _ _ _ us hl => match us, hl with | [_], _ => rfl⟩
  refine F.ok sc_Runner_back (fun vs H Q E' h => ?_) (fun cdv A outer s H vs Q E' hr h => ?_)
  · obtain ⟨a, pl, rl, p, C, more, us, ls, s, hs, rfl, _⟩ := h; rfl
  · have hu64 := hu64_of hr
    refine ⟨_, (pss_cons (ps_if (pt_cmpR (op_eqD hu64) (pe_fld (pv 0) (by rfl)) (pe_lst pa_nil) (nomark _))
        (pss_one (ps_raise rfl (takes_of (E := E') rfl rfl rfl rfl) (pmk_0 X_NothingLeft (hr.mono (by decide)) rfl pass0)))
        pss_nil)
      (pss_cons (ps_fld (pv 0) (pe_bm0 PySem.F.plainAttrs_list PySem.F.slot_list_pop PySem.F.type_list_pop mt_pop (pe_fld (pv 0) (by rfl))) rfl)
      (pss_one (ps_ret (pe_ix ix_tup (pe_fld (pv 0) (by rfl)) pe_int (fun _ _ => rfl)))))), ?_⟩
    obtain ⟨a, pl, rl, p, C, more, us, ls, s, hist, rfl, hR, hn, hno, k⟩ := h
    have rc := hR.rc
    obtain ⟨dx, v, ps, h1, h2, h3, h4⟩ := hR.ex
    have hpl : ps.length = hist.length := by
      have := DpAll.length h4
      rw [List.length_map] at this
      exact this
    refine ⟨_, rfl, a, _, dx, _, _, rfl, h1, rc.cls, rc.n4, rfl, (by show 0 ≤ sizeLine; decide), fun l0 hl0 => ?_⟩
    have e1 := same_new (o := .lst []) hl0
    refine ⟨.list (hist.map RSt.d), .list [], .lst (SqL.of (e1 _ _ h3)) (Dp.sameAll e1 h4), .lst (SqL.of upd_same) .nil, rsts_shaped hist hno, rsts_shaped [] (fun t ht => absurd ht List.not_mem_nil), _, rfl, ?_⟩
    rw [eqv_rsts]
    rcases k with ⟨rfl, k⟩ | ⟨hs', t, rfl, k⟩
    · exact ite_t rfl (k _ e1)
    refine ite_f (decide_eq_false (by simp)) ?_
    rw [List.map_append] at h4
    have h4' : ∃ ps' tv, ps = ps' ++ [tv] ∧ DpAll K H ps' (hs'.map RSt.d) ∧ Dp K H tv t.d := by
      clear hpl h3 k e1 hl0 h1 hn hR
      generalize hs'.map RSt.d = ds at h4
      induction ds generalizing ps with
      | nil =>
        obtain ⟨u, rfl, hu⟩ := DpAll.one' h4
        exact ⟨[], u, rfl, .nil, hu⟩
      | cons d ds ih =>
        cases h4 with
        | cons g1 g2 =>
          obtain ⟨ps', tv, rfl, g3, g4⟩ := ih _ g2
          exact ⟨_ :: ps', tv, rfl, .cons g1 g3, g4⟩
    obtain ⟨ps', tv, rfl, g3, g4⟩ := h4'
    have h1' := e1 _ _ h1
    have h3' := e1 _ _ h3
    have g3' := Dp.sameAll e1 g3
    have g4' := Dp.same e1 g4
    have hr' := e1 _ _ hR.rows
    have np := hR.np
    have m1 : MvR a pl H (upd H l0 (.lst [])) := .of e1
    generalize upd H l0 (.lst []) = H1 at *
    refine ⟨_, rfl, a, _, dx, _, _, rfl, h1', rc.cls, rc.n4, rfl, .inl ⟨rfl, _, SqL.of h3'⟩, pl, _, tv, rfl, rfl, h3', ?_, ?_⟩
    · rw [List.length_append]
      show (ps' ++ [tv])[ps'.length + 1 - 1]? = _
      rw [Nat.add_sub_cancel, List.getElem?_append_right (Nat.le_refl _), Nat.sub_self]
      rfl
    rw [List.dropLast_concat]
    have t2 : TupX H1 (upd H1 pl (.lst ps')) := .putL h3'
    have h1'' : (upd H1 pl (.lst ps')) a = some (.ins C dx (("source", .ref p) :: ("rows", .ref rl) :: ("state", v) :: ("past", .ref pl) :: more)) := by rw [upd_ne np.2.2.1]; exact h1'
    have hr2 : (upd H1 pl (.lst ps')) rl = some (.lst us) := by rw [upd_ne hR.ne]; exact hr'
    have hp2 : (upd H1 pl (.lst ps')) pl = some (.lst ps') := upd_same
    have g32 := Dp.tupXs t2 (rst_nls hs') g3'
    have g42 := Dp.tupX t2 (RSt.nl t) g4'
    have m2 : MvR a pl H (upd H1 pl (.lst ps')) := m1.putP
    generalize upd H1 pl (.lst ps') = H2 at *
    refine ⟨_, rfl, a, _, dx, _, rfl, h1'', rc.cls, rc.n3, (by have := hR.ml; show more.length + 4 < 1000; omega), ?_⟩
    have hI : (upd H2 a (.ins C dx (("source", .ref p) :: ("rows", .ref rl) :: ("state", tv) :: ("past", .ref pl) :: more))) a = some (.ins C dx (("source", .ref p) :: ("rows", .ref rl) :: ("state", tv) :: ("past", .ref pl) :: more)) := upd_same
    have t3 : TupX H2 (upd H2 a (.ins C dx (("source", .ref p) :: ("rows", .ref rl) :: ("state", tv) :: ("past", .ref pl) :: more))) := .put h1'' id
    have hst := Dp.tupX t3 (RSt.nl t) g42
    have hh := Dp.tupXs t3 (rst_nls hs') g32
    obtain ⟨sa, vp, pv, rfl, hS, hP, hV⟩ := Dp.rst hst
    refine ⟨_, rfl, a, _, dx, _, _, rfl, hI, rc.cls, rc.n3, rfl, sa, _, _, _, rfl, rfl, hS, at_0 _ _, ?_⟩
    refine k _ m2.putA ⟨rc, ⟨dx, _, ps', upd_same, hst, by rw [upd_ne np.2.2.1.symm]; exact hp2, hh⟩, by rw [upd_ne np.2.2.2]; exact hr2, hR.ne, (hR.prog.mvR m2 h1 h3 np.1).put h1'' np.1, hR.ml⟩

/-! ### CountingRunner.back -/
/-- the last step taken back, or none -/
def sp_CountingRunner_back (K : PySem.W.Frag) : Sp := fun vs H Q E => ∃ (a pl rl p dl : Addr) (us : List V) (ls : List Lin) (s : RSt) (hs : List RSt), vs = [.ref a] ∧ CouP K (He.ga K "CountingRunner") H a pl rl p dl us ls s hs ∧ hs.length ≤ 1000 ∧ (∀ t ∈ hs, t.out = none ∧ t.at_ < ls.length) ∧
  ((hs = [] ∧ ∀ H1, Same H H1 → ∀ d, H1 d = none → E (.ref (He.ga K "NothingLeft")) (some d) (upd H1 d (.xd [("tag", .str "NothingLeft")]))) ∨
   ∃ hs' t, hs = hs' ++ [t] ∧ ∀ H', MvC a pl dl H H' → CouP K (He.ga K "CountingRunner") H' a pl rl p dl us ls t hs' → Q (.int (t.at_ : Int)) H')
theorem ixN_natB {n j : Nat} (h : j < n) : ixN n (j : Int) = some j := by
  unfold ixN
  rw [if_pos (by omega), if_pos (by omega)]
  simp

theorem sc_CountingRunner_back : ScopeS ["self", "line"] ["self"] (defScope s_CountingRunner_back) := ⟨rfl, rfl, rfl, by decide, rfl, by decide +kernel, by decide +kernel, by decide +kernel, by rfl, by rfl⟩
theorem ok_CountingRunner_back (E : En K mg) (MP : MainP P "/claim/cut.py") (SS : SaysS fns K) (G_Runner_back : GoodM P w K mg base (L2.CX P w) 3 (He.ma K (He.ga K "Runner") "back") ["self"] (sp_Runner_back K)) : GoodM P w K mg base (L2.CX P w) 4 (He.ma K (He.ga K "CountingRunner") "back") ["self"] (sp_CountingRunner_back K) := by
  obtain ⟨e, cc⟩ := SS.def_ 2 (d := dm_CountingRunner_back) rfl
  obtain ⟨kV, doc, pm, ct, an, cd, cl, T, hcd⟩ := DefS.getM (d := dm_CountingRunner_back) MP ⟨_, rfl, rfl⟩ (by decide) (by decide) e cc
  refine ⟨_, supfn_ok (N := ["self", "line"]) (ps := ["self"]) (k := 3) T hcd sc_CountingRunner_back (fun vs H Q E' h => ?_) (fun A outer sT H vs Q E' hr h => ?_), Binds.all (fun us hl => match us, hl with | [_], _ => rfl)⟩
  · obtain ⟨a, pl, rl, p, dl, us, ls, s, hs, rfl, _⟩ := h; rfl
  · have hu64 := hu64_of hr
    refine ⟨_, (pss_cons (ps_augS (pe_fld (pv 0) (by rfl)) (pv 1) get_list pe_int ip_sub set_list)
      (pss_one (ps_ret (pv 1)))), fun s1 I => ?_⟩
    obtain ⟨a, pl, rl, p, dl, us, ls, s, hist, rfl, hC, hn, hok, k⟩ := h
    obtain ⟨dx, v', ps, hea, h2, h3, h4⟩ := hC.run.ex
    have rc := hC.run.rc
    refine sup_asg (X := cxS (L2.CX P w) P w K mg base ["self", "line"] _ _ _ (.ref cd) cl A outer sT H E') (i := 1) sc_CountingRunner_back.nd rfl rfl (sup_eval (pl := do return (← (pure (some false) : Sem (Option Bool))).getD true) T sc_CountingRunner_back (E.fr "super") rfl (by rfl) rfl I hea (fun s2 q I2 hb => supcall_none I2 T.fi (GoodM.raw G_Runner_back) (hr.mono (by decide)) (passes_call (E := E') (takes_of (E := E') rfl rfl rfl rfl) fun _ _ _ _ h => h) ?_) rfl)
    refine ⟨a, pl, rl, p, _, _, us, ls, s, hist, rfl, hC.run, hn, fun t ht => (hok t ht).1, ?_⟩
    rcases k with ⟨e, k⟩ | ⟨hs', t, rfl, k⟩
    · exact .inl ⟨e, k⟩
    refine .inr ⟨hs', t, rfl, fun H1 m R1 => ?_⟩
    obtain ⟨dx1, v1, ps1, h1, g2, g3, g4⟩ := R1.ex
    have hlt := (hok t (List.mem_append_right _ List.mem_cons_self)).2
    have hd1 := m _ _ hC.nda hC.np hC.don
    have hx : (cntL ls.length (hs' ++ [t]))[t.at_]? = some ((hs'.countP fun u => u.at_ == t.at_) + 1) := by
      rw [cntL_get _ hlt]
      simp [List.countP_append]
    refine ⟨_, rfl, a, _, dx1, _, _, rfl, h1, rc.cls, hC.nd, rfl, _, rfl, dl, _, t.at_, .int (((hs'.countP fun u => u.at_ == t.at_) + 1 : Nat) : Int), rfl, rfl, SqL.of hd1, by rw [List.getElem?_map, hx]; rfl, _, _, rfl, rfl, dl, _, _, t.at_, rfl, rfl, hd1, ixN_natB (by rw [List.length_map, cntL_len]; exact hlt), _, rfl, ?_⟩
    refine k _ (fun c o n1 n2 n3 h => by rw [upd_ne n3]; exact m c o n1 n2 h) ⟨R1.put hd1 hC.np hC.nr, hC.nd, ?_, hC.np, hC.nr⟩
    rw [upd_same, ← cntL_pop hs' t hlt, List.map_set]
    congr 3
    show V.int ((((hs'.countP fun u => u.at_ == t.at_) + 1 : Nat) : Int) - 1) = V.int ((hs'.countP fun u => u.at_ == t.at_ : Nat) : Int)
    congr 1
    omega

/-! ### is_true -/
/-- what a test says -/
def sp_is_true (K : PySem.W.Frag) : Sp := fun vs H Q _ => ∃ (v : V) (t : Tst) (p a : Addr) (x y : Nat) (va : List Nat), vs = [v, .ref p, .ref a] ∧ Dp K H v t.d ∧ t.Ok ∧ SqT K H p [.int (x : Int), .int (y : Int)] ∧ SqT K H a (va.map fun n : Nat => V.int (n : Int)) ∧ va.length = 3 ∧ ∀ H', Same H H' → Q (.bl (t.tru x y va)) H'

theorem sc_is_true : FnScope ["test", "pair", "values", "x", "y", "word", "rest", "number"] ["test", "pair", "values"] (defScope s_is_true) := ⟨rfl, rfl, rfl, by decide +kernel, rfl, by decide +kernel, by decide +kernel⟩
theorem ok_is_true (E : En K mg) : Good P w K mg base CX0 1 "is_true" ["test", "pair", "values"] (sp_is_true K) := by
  obtain ⟨fd, F⟩ := E.says.def_ 6 (d := d_is_true) rfl
  refine ⟨fd, ?_, F.bindsN fun _ _ _ _ _ _ us hl => match us, hl with | [_, _, _], _ => rfl, F.kp, E.gl "is_true"⟩
  refine F.ok sc_is_true (fun vs H Q E' h => ?_) (fun cdv A outer s H vs Q E' hr h => ?_)
  · obtain ⟨v, t, p, a, x, y, va, rfl, _⟩ := h; rfl
  · have hu64 := hu64_of hr
    refine ⟨_, PSs.nox (pss_cons (ps_asg (pv 1) (pg_tup rfl (pgs_cons (pg_name (i := 3) sc_is_true.nd rfl (by first | exact Or.inl rfl | exact Or.inr rfl)) (pgs_cons (pg_name (i := 4) sc_is_true.nd rfl (by first | exact Or.inl rfl | exact Or.inr rfl)) pgs_nil))))
      (pss_cons (ps_asg (pv 0) (pg_star rfl (pgs_cons (pg_name (i := 5) sc_is_true.nd rfl (by first | exact Or.inl rfl | exact Or.inr rfl)) (pgs_cons (pg_name (i := 6) sc_is_true.nd rfl (by first | exact Or.inl rfl | exact Or.inr rfl)) pgs_nil))))
      (pss_cons (ps_match (pv 5)
        (pm_val op_eq pe_str
        (pss_one (ps_ret (pe_cmpR op_lt (pv 3) (pv 4) (nomark _))))
        (pm_val op_eq pe_str
        (pss_one (ps_ret (pe_cmpR op_eq (pv 3) (pv 4) (nomark _))))
        (pm_val op_eq pe_str
        (pss_one (ps_ret (pe_cmpR op_gt (pv 3) (pv 4) (nomark _))))
        (pm_val op_eq pe_str
        (pss_one (ps_ret (pe_cmpR op_eq (pe_ifExp (pt_cmpR op_eq (pe_ix ix_list (pv 6) pe_int (fun _ _ => rfl)) pe_str (nomark _)) (pv 3) (pv 4)) pe_int (nomark _))))
        (pm_val op_eq pe_str
        (pss_cons (ps_set (i := 7) sc_is_true.nd rfl (by first | exact Or.inl rfl | exact Or.inr rfl) (pe_ifExp (pt_cmpR op_eq (pe_ix ix_list (pv 6) pe_int (fun _ _ => rfl)) pe_str (nomark _)) (pv 3) (pv 4)))
      (pss_one (ps_ret (pe_cmpR op_eq (pe_op op_mod (pv 7) (pe_ix ix_list (pv 6) pe_int (fun _ _ => rfl))) (pe_ix ix_list (pv 6) pe_int (fun _ _ => rfl)) (nomark _)))))
        pm_nil))))))
      (pss_one (ps_ret (pe_cmpR op_eq (pe_ix ix_tup (pv 2) (pe_bm PySem.F.plainAttrs_tuple PySem.F.slot_tuple_index PySem.F.type_tuple_index mt_tup_index (pe_glob rfl (E.gl "VARIABLES") (show RelV (V.ref (He.ga K "VARIABLES")) _ from rfl)) (pa_cons (pe_ix ix_list (pv 6) pe_int (fun _ _ => rfl)) pa_nil)) (fun _ _ => rfl)) (pe_ix ix_list (pv 6) pe_int (fun _ _ => rfl)) (nomark _))))))), ?_⟩
    obtain ⟨v, t, p, a, x, y, va, rfl, hv, ht, hP, hV, hl, k⟩ := h
    obtain ⟨c, ws, rfl, hT, hC⟩ := Dp.tst hv
    refine ⟨_, rfl, p, _, rfl, hP, rfl, _, _, rfl, _, _, rfl, rfl, ?_⟩
    -- word, *rest = test
    refine ⟨_, rfl, c, .str t.w, ws, rfl, hT, fun l hl2 => ?_⟩
    refine ⟨_, _, rfl, _, _, rfl, rfl, ?_⟩
    have e1 := same_new (o := .lst ws) hl2
    have hC1 := Dp.sameAll e1 hC
    have hV1 := seqT e1 hV
    have hL : SqL K (upd H l (.lst ws)) l ws := SqL.of upd_same
    generalize upd H l (.lst ws) = H1 at *
    have kH := k H1 e1
    refine ⟨_, rfl, ?_⟩
    cases t with
    | ord o =>
      cases o with
      | less =>
        refine ⟨rfl, _, rfl, ite_t (Tst.w_is _ 0) ⟨_, rfl, _, rfl, _, _, rfl, rfl, ?_⟩⟩
        show Q (.bl (decide ((x : Int) < (y : Int)))) H1
        rw [show decide ((x : Int) < (y : Int)) = decide (x < y) from decide_eq_decide.mpr (by omega)]
        exact kH
      | equal =>
        refine ⟨rfl, _, rfl, ite_f (Tst.w_is _ 0) ⟨rfl, _, rfl, ite_t (Tst.w_is _ 1) ⟨_, rfl, _, rfl, rfl, ?_⟩⟩⟩
        rw [deN]
        exact kH
      | more =>
        refine ⟨rfl, _, rfl, ite_f (Tst.w_is _ 0) ⟨rfl, _, rfl, ite_f (Tst.w_is _ 1) ⟨rfl, _, rfl, ite_t (Tst.w_is _ 2) ⟨_, rfl, _, rfl, _, _, rfl, rfl, ?_⟩⟩⟩⟩
        show Q (.bl (decide ((y : Int) < (x : Int)))) H1
        rw [show decide ((y : Int) < (x : Int)) = decide (y < x) from decide_eq_decide.mpr (by omega)]
        exact kH
    | zero ax =>
      obtain ⟨u1, rfl, h1⟩ := DpAll.one' hC1
      obtain rfl := Dp.strE h1
      refine ⟨rfl, _, rfl, ite_f (Tst.w_is _ 0) ⟨rfl, _, rfl, ite_f (Tst.w_is _ 1) ⟨rfl, _, rfl, ite_f (Tst.w_is _ 2) ⟨rfl, _, rfl, ite_t (Tst.w_is _ 3) ?_⟩⟩⟩⟩
      refine ⟨_, rfl, l, _, _, _, rfl, rfl, hL, (by rfl), rfl, _, rfl, ?_⟩
      rw [axS_x]
      cases ax with
      | true =>
        refine ite_t rfl ⟨_, rfl, rfl, ?_⟩
        rw [show (V.int 0) = V.int ((0 : Nat) : Int) from rfl, deN]
        exact kH
      | false =>
        refine ite_f rfl ⟨_, rfl, rfl, ?_⟩
        rw [show (V.int 0) = V.int ((0 : Nat) : Int) from rfl, deN]
        exact kH
    | rest ax m r =>
      obtain ⟨u1, u2, u3, rfl, h1, h2, h3⟩ := DpAll.three' hC1
      obtain rfl := Dp.strE h1
      obtain rfl := Dp.intE h2
      obtain rfl := Dp.intE h3
      have hm : m = 2 ∨ m = 3 := ht.1
      refine ⟨rfl, _, rfl, ite_f (Tst.w_is _ 0) ⟨rfl, _, rfl, ite_f (Tst.w_is _ 1) ⟨rfl, _, rfl, ite_f (Tst.w_is _ 2) ⟨rfl, _, rfl, ite_f (Tst.w_is _ 3) ⟨rfl, _, rfl, ite_t (Tst.w_is _ 5) ?_⟩⟩⟩⟩⟩
      refine ⟨_, rfl, l, _, _, _, rfl, rfl, hL, (by rfl), rfl, _, rfl, ?_⟩
      rw [axS_x]
      cases ax with
      | true =>
        refine ite_t rfl ⟨_, rfl, _, rfl, _, rfl, l, _, _, _, rfl, rfl, hL, (by rfl), _, _, rfl, rfl, (by show (0 : Int) < (m : Int); omega), _, rfl, l, _, _, _, rfl, rfl, hL, (by rfl), rfl, ?_⟩
        show Q (.bl (decide (V.int ((x : Int) % (m : Int)) = V.int (r : Int)))) H1
        rw [← Int.natCast_emod, deN]
        exact kH
      | false =>
        refine ite_f rfl ⟨_, rfl, _, rfl, _, rfl, l, _, _, _, rfl, rfl, hL, (by rfl), _, _, rfl, rfl, (by show (0 : Int) < (m : Int); omega), _, rfl, l, _, _, _, rfl, rfl, hL, (by rfl), rfl, ?_⟩
        show Q (.bl (decide (V.int ((y : Int) % (m : Int)) = V.int (r : Int)))) H1
        rw [← Int.natCast_emod, deN]
        exact kH
    | holds v n =>
      obtain ⟨u1, u2, rfl, h1, h2⟩ := DpAll.two' hC1
      obtain rfl := Dp.strE h1
      obtain rfl := Dp.intE h2
      refine ⟨rfl, _, rfl, ite_f (Tst.w_is _ 0) ⟨rfl, _, rfl, ite_f (Tst.w_is _ 1) ⟨rfl, _, rfl, ite_f (Tst.w_is _ 2) ⟨rfl, _, rfl, ite_f (Tst.w_is _ 3) ⟨rfl, _, rfl, ite_f (Tst.w_is _ 5) ?_⟩⟩⟩⟩⟩
      refine ⟨_, rfl, ty_VARIABLES E _, _, rfl, l, _, _, _, rfl, rfl, hL, (by rfl), _, ["a", "b", "c"], v.s, v.j, rfl, rfl, at_VARIABLES E _, v3_sat v, v3_sne v, ?_⟩
      refine ⟨a, _, _, _, rfl, rfl, hV1, atI_nat (v3_get hl v), _, rfl, l, _, _, _, rfl, rfl, hL, (by rfl), rfl, ?_⟩
      rw [deN]
      exact kH

/-! ### changed -/
/-- a pair behind a line that adds or takes -/
def sp_changed (K : PySem.W.Frag) : Sp := fun vs H Q _ => ∃ (v vp : V) (l : Lin) (x y : Nat), vs = [v, vp] ∧ Dp K H v l.d ∧ (l.wi = 0 ∨ l.wi = 1) ∧ PairAt K H vp x y ∧
  ∀ v' H', Same H H' → (match movedL l x y with
    | some p => PairAt K H' v' p.1 p.2 ∧ ∃ q, v' = .ref q ∧ H' q = some (.tup [.int (p.1 : Int), .int (p.2 : Int)])
    | none => v' = .non) → Q v' H'

theorem sc_changed : FnScope ["line", "pair", "x", "y"] ["line", "pair"] (defScope s_changed) := ⟨rfl, rfl, rfl, by decide +kernel, rfl, by decide +kernel, by decide +kernel⟩
theorem ok_changed (E : En K mg) : Good P w K mg base CX0 1 "changed" ["line", "pair"] (sp_changed K) := by
  obtain ⟨fd, F⟩ := E.says.def_ 7 (d := d_changed) rfl
  refine ⟨fd, ?_, F.bindsN fun _ _ _ _ _ _ us hl => match us, hl with | [_, _], _ => rfl, F.kp, E.gl "changed"⟩
  refine F.ok sc_changed (fun vs H Q E' h => ?_) (fun cdv A outer s H vs Q E' hr h => ?_)
  · obtain ⟨v, vp, l, x, y, rfl, _⟩ := h; rfl
  · have hu64 := hu64_of hr
    refine ⟨_, PSs.nox (pss_cons (ps_asg (pv 1) (pg_tup rfl (pgs_cons (pg_name (i := 2) sc_changed.nd rfl (by first | exact Or.inl rfl | exact Or.inr rfl)) (pgs_cons (pg_name (i := 3) sc_changed.nd rfl (by first | exact Or.inl rfl | exact Or.inr rfl)) pgs_nil))))
      (pss_cons (ps_if (pt_cmpR (op_eqD hu64) (pv 0) (pe_tup (pa_cons pe_str (pa_cons pe_str pa_nil))) (nomark _))
        (pss_one (ps_ret (pe_tup (pa_cons (pe_op op_add (pv 2) (pv 3)) (pa_cons (pv 3) pa_nil)))))
        pss_nil)
      (pss_cons (ps_if (pt_cmpR (op_eqD hu64) (pv 0) (pe_tup (pa_cons pe_str (pa_cons pe_str pa_nil))) (nomark _))
        (pss_one (ps_ret (pe_tup (pa_cons (pv 2) (pa_cons (pe_op op_add (pv 2) (pv 3)) pa_nil)))))
        pss_nil)
      (pss_cons (ps_if (pt_cmpR (op_eqD hu64) (pv 0) (pe_tup (pa_cons pe_str (pa_cons pe_str pa_nil))) (nomark _))
        (pss_one (ps_ret (pe_ifExp (pt_cmpR op_ge (pv 2) (pv 3) (nomark _)) (pe_tup (pa_cons (pe_op op_sub (pv 2) (pv 3)) (pa_cons (pv 3) pa_nil))) pe_non)))
        pss_nil)
      (pss_one (ps_ret (pe_ifExp (pt_cmpR op_ge (pv 3) (pv 2) (nomark _)) (pe_tup (pa_cons (pv 2) (pa_cons (pe_op op_sub (pv 3) (pv 2)) pa_nil))) pe_non))))))), ?_⟩
    obtain ⟨v, vp, l, x, y, rfl, hv, hw, hP, k⟩ := h
    obtain ⟨pp, rfl, hp⟩ := id hP
    have z2 : 2 ≤ sizeLine := by decide
    refine ⟨_, rfl, pp, _, rfl, hp, rfl, _, _, rfl, _, _, rfl, rfl, ?_⟩
    have made : ∀ (H1 : Hp) (q : Addr) (x' y' : Nat) (i j : Int), Same H H1 → H1 q = none → i = (x' : Int) → j = (y' : Int) → movedL l x y = some (x', y') → Q (.ref q) (upd H1 q (.tup [.int i, .int j])) := fun H1 q x' y' i j e hq hi hj hm => by
      subst hi hj
      refine k _ _ (e.trans (same_new hq)) ?_
      rw [hm]
      exact ⟨⟨q, rfl, SqT.of upd_same⟩, q, rfl, upd_same⟩
    have gone : ∀ (H1 : Hp), Same H H1 → movedL l x y = none → Q .non H1 := fun H1 e hm => by
      refine k _ _ e ?_
      rw [hm]
    have eqs : ∀ (w : Str) (ax : Bool) (w2 : Str) (ax2 : Bool), True := fun _ _ _ _ => trivial
    cases l with
    | add ax =>
      refine ⟨_, rfl, z2, fun t1 ht1 => ?_⟩
      have f1 := same_new (o := .tup [V.str "add", .str "x"]) ht1
      refine ⟨(Lin.add ax).d, (Lin.add true).d, Dp.same f1 hv, .tup (SqT.of upd_same) (.cons (.str _) (.cons (.str _) .nil)), by cases ax <;> decide +kernel, by decide +kernel, _, rfl, ?_⟩
      cases ax with
      | true =>
        refine ite_t (by decide +kernel) ⟨_, rfl, _, rfl, _, _, rfl, rfl, _, rfl, z2, fun q hq => ?_⟩
        exact made _ q (x + y) y _ _ f1 hq (by omega) rfl rfl
      | false =>
        refine ite_f (by decide +kernel) ⟨_, rfl, z2, fun t2 ht2 => ?_⟩
        have f2 := f1.trans (same_new (o := .tup [V.str "add", .str "y"]) ht2)
        refine ⟨(Lin.add false).d, (Lin.add false).d, Dp.same f2 hv, .tup (SqT.of upd_same) (.cons (.str _) (.cons (.str _) .nil)), by decide +kernel, by decide +kernel, _, rfl, ?_⟩
        refine ite_t (by decide +kernel) ⟨_, rfl, _, rfl, _, rfl, _, _, rfl, rfl, z2, fun q hq => ?_⟩
        exact made _ q x (x + y) _ _ f2 hq rfl (by omega) rfl
    | take ax =>
      refine ⟨_, rfl, z2, fun t1 ht1 => ?_⟩
      have f1 := same_new (o := .tup [V.str "add", .str "x"]) ht1
      refine ⟨(Lin.take ax).d, (Lin.add true).d, Dp.same f1 hv, .tup (SqT.of upd_same) (.cons (.str _) (.cons (.str _) .nil)), by cases ax <;> decide +kernel, by decide +kernel, _, rfl, ?_⟩
      refine ite_f (by cases ax <;> decide +kernel) ⟨_, rfl, z2, fun t2 ht2 => ?_⟩
      have f2 := f1.trans (same_new (o := .tup [V.str "add", .str "y"]) ht2)
      refine ⟨(Lin.take ax).d, (Lin.add false).d, Dp.same f2 hv, .tup (SqT.of upd_same) (.cons (.str _) (.cons (.str _) .nil)), by cases ax <;> decide +kernel, by decide +kernel, _, rfl, ?_⟩
      refine ite_f (by cases ax <;> decide +kernel) ⟨_, rfl, z2, fun t3 ht3 => ?_⟩
      have f3 := f2.trans (same_new (o := .tup [V.str "take", .str "x"]) ht3)
      refine ⟨(Lin.take ax).d, (Lin.take true).d, Dp.same f3 hv, .tup (SqT.of upd_same) (.cons (.str _) (.cons (.str _) .nil)), by cases ax <;> decide +kernel, by decide +kernel, _, rfl, ?_⟩
      cases ax with
      | true =>
        refine ite_t (by decide +kernel) ⟨_, rfl, _, rfl, _, _, rfl, rfl, _, rfl, ?_⟩
        by_cases c : y ≤ x
        · refine ite_t (decide_eq_true (by omega)) ⟨_, rfl, _, rfl, _, _, rfl, rfl, _, rfl, z2, fun q hq => ?_⟩
          exact made _ q (x - y) y _ _ f3 hq (by omega) rfl (by show (if y ≤ x then _ else _) = _; rw [if_pos c])
        · exact ite_f (decide_eq_false (by omega)) (gone _ f3 (by show (if y ≤ x then _ else _) = _; rw [if_neg c]))
      | false =>
        refine ite_f (by decide +kernel) ⟨_, rfl, _, rfl, _, _, rfl, rfl, _, rfl, ?_⟩
        by_cases c : x ≤ y
        · refine ite_t (decide_eq_true (by omega)) ⟨_, rfl, _, rfl, _, rfl, _, _, rfl, rfl, z2, fun q hq => ?_⟩
          exact made _ q x (y - x) _ _ f3 hq rfl (by omega) (by show (if x ≤ y then _ else _) = _; rw [if_pos c])
        · exact ite_f (decide_eq_false (by omega)) (gone _ f3 (by show (if x ≤ y then _ else _) = _; rw [if_neg c]))
    | _ => rcases hw with h | h <;> cases h

/-! ### behind -/
/-- the state behind a state -/
def sp_behind (K : PySem.W.Frag) : Sp := fun vs H Q _ => ∃ (a : Addr) (us : List V) (ls : List Lin) (v : V) (s : RSt) (pick : Bool), vs = [.ref a, v, .int (if pick = true then 1 else 0)] ∧ SqL K H a us ∧ DpAll K H us (ls.map Lin.d) ∧ (∀ x ∈ ls, x.Ok ls.length) ∧ ls.length ≤ 1000 ∧ Dp K H v s.d ∧ s.Ok ls.length ∧ s.at_ < ls.length ∧
  ∀ l, ls[s.at_]? = some l → ∀ v' H', Same H H' → Dp K H' v' (goL ls.length pick s l).d → Q v' H'

theorem sc_behind : FnScope ["rows", "state", "choice", "at", "pair", "values", "outcome", "line", "ahead", "after", "spot"] ["rows", "state", "choice"] (defScope s_behind) := ⟨rfl, rfl, rfl, by decide +kernel, rfl, by decide +kernel, by decide +kernel⟩
theorem ok_behind (E : En K mg) (G_is_true : Good P w K mg base CX0 1 "is_true" ["test", "pair", "values"] (sp_is_true K)) (G_changed : Good P w K mg base CX0 1 "changed" ["line", "pair"] (sp_changed K)) : Good P w K mg base CX0 2 "behind" ["rows", "state", "choice"] (sp_behind K) := by
  obtain ⟨fd, F⟩ := E.says.def_ 8 (d := d_behind) rfl
  refine ⟨fd, ?_, F.bindsN fun _ _ _ _ _ _ us hl => match us, hl with | [_, _, _], _ => rfl, F.kp, E.gl "behind"⟩
  refine F.ok sc_behind (fun vs H Q E' h => ?_) (fun cdv A outer s H vs Q E' hr h => ?_)
  · obtain ⟨a, us, ls, v, s, pick, rfl, _⟩ := h; rfl
  · have hu64 := hu64_of hr
    refine ⟨_, PSs.nox (pss_cons (ps_asg (pv 1) (pg_tup rfl (pgs_cons (pg_name (i := 3) sc_behind.nd rfl (by first | exact Or.inl rfl | exact Or.inr rfl)) (pgs_cons (pg_name (i := 4) sc_behind.nd rfl (by first | exact Or.inl rfl | exact Or.inr rfl)) (pgs_cons (pg_name (i := 5) sc_behind.nd rfl (by first | exact Or.inl rfl | exact Or.inr rfl)) (pgs_cons (pg_name (i := 6) sc_behind.nd rfl (by first | exact Or.inl rfl | exact Or.inr rfl)) pgs_nil))))))
      (pss_cons (ps_par (i := 7) (j := 8) rfl sc_behind.nd rfl rfl (by decide) rfl rfl (pa_cons (pe_ix ix_list (pv 0) (pv 3) (fun _ _ => rfl)) (pa_cons (pe_op op_add (pv 3) pe_int) pa_nil)) rfl)
      (C8.pss_cut (ps_match (pe_ix ix_tup (pv 7) pe_int (fun _ _ => rfl))
        (pm_or2 op_eq pe_str pe_str
        (pss_cons (ps_set (i := 9) sc_behind.nd rfl (by first | exact Or.inl rfl | exact Or.inr rfl) (pe_G G_changed (hr.mono (by decide)) rfl pass0 (pa_cons (pv 7) (pa_cons (pv 4) pa_nil))))
      (pss_cons (ps_if (pt_cmpR op_isN (pv 9) pe_non (nomark _))
        (pss_one (ps_ret (pe_tup (pa_cons (pv 3) (pa_cons (pv 4) (pa_cons (pv 5) (pa_cons pe_str pa_nil)))))))
        pss_nil)
      (pss_one (ps_set (i := 4) sc_behind.nd rfl (by first | exact Or.inl rfl | exact Or.inr rfl) (pv 9)))))
        (pm_val op_eq pe_str
        (pss_cons (ps_set (i := 10) sc_behind.nd rfl (by first | exact Or.inl rfl | exact Or.inr rfl) (pe_bm PySem.F.plainAttrs_tuple PySem.F.slot_tuple_index PySem.F.type_tuple_index mt_tup_index (pe_glob rfl (E.gl "VARIABLES") (show RelV (V.ref (He.ga K "VARIABLES")) _ from rfl)) (pa_cons (pe_ix ix_tup (pv 7) pe_int (fun _ _ => rfl)) pa_nil)))
      (pss_one (ps_set (i := 5) sc_behind.nd rfl (by first | exact Or.inl rfl | exact Or.inr rfl) (pe_op op_catA (pe_op op_catA (pe_slice sl_tup (pv 5) po_none (po_some (pv 10))) (pe_tup (pa_cons (pe_ix ix_tup (pv 7) pe_int (fun _ _ => rfl)) pa_nil))) (pe_slice sl_tup (pv 5) (po_some (pe_op op_add (pv 10) pe_int)) po_none)))))
        (pm_val op_eq pe_str
        (pss_one (ps_set (i := 8) sc_behind.nd rfl (by first | exact Or.inl rfl | exact Or.inr rfl) (pe_ifExp (pt_val (pe_G G_is_true (hr.mono (by decide)) rfl pass0 (pa_cons (pe_ix ix_tup (pv 7) pe_int (fun _ _ => rfl)) (pa_cons (pv 4) (pa_cons (pv 5) pa_nil))))) (pe_ix ix_tup (pv 7) pe_int (fun _ _ => rfl)) (pv 8))))
        (pm_val op_eq pe_str
        (pss_one (ps_set (i := 8) sc_behind.nd rfl (by first | exact Or.inl rfl | exact Or.inr rfl) (pe_ifExp (pt_cmpR op_eq (pv 2) pe_int (nomark _)) (pe_ix ix_tup (pv 7) pe_int (fun _ _ => rfl)) (pv 8))))
        (pm_val op_eq pe_str
        (pss_one (ps_set (i := 8) sc_behind.nd rfl (by first | exact Or.inl rfl | exact Or.inr rfl) (pe_ix ix_tup (pv 7) pe_int (fun _ _ => rfl))))
        (pm_val op_eq pe_str
        (pss_one (ps_ret (pe_tup (pa_cons (pv 3) (pa_cons (pv 4) (pa_cons (pv 5) (pa_cons (pe_ix ix_tup (pv 7) pe_int (fun _ _ => rfl)) pa_nil)))))))
        pm_nil)))))))
      (pss_one (ps_ret (pe_tup (pa_cons (pv 8) (pa_cons (pv 4) (pa_cons (pv 5) (pa_cons (pe_ifExp (pt_cmpR op_eq (pv 8) (pe_callB call_len_seq (by rfl) (E.fr "len") (by decide +kernel) (pa_cons (pv 0) pa_nil)) (nomark _)) pe_str pe_non) pa_nil)))))))))), ?_⟩
    obtain ⟨a, us, ls, v, s, pick, rfl, hL, hA, hok, hn, hv, hs, hat, k⟩ := h
    have z1 : 1 ≤ sizeLine := by decide
    have z4 : 4 ≤ sizeLine := by decide
    obtain ⟨sa, vp, pv, rfl, hS, hP, hV⟩ := Dp.rst hv
    have hul : us.length = ls.length := by
      have := DpAll.length hA
      rw [List.length_map] at this
      exact this
    refine ⟨_, rfl, sa, _, rfl, hS, rfl, _, _, rfl, _, _, rfl, _, _, rfl, _, _, rfl, rfl, ?_⟩
    have hz : us[s.at_]? = some us[s.at_] := List.getElem?_eq_getElem (by omega)
    obtain ⟨l, hl, hlv⟩ := lin_at hA hz
    have hx := hok l (List.mem_of_getElem? hl)
    obtain ⟨lb, ws, elb, hB, hC⟩ := Dp.lin hlv
    have k := k l hl
    refine ⟨_, rfl, _, rfl, a, _, _, _, rfl, rfl, hL, atI_nat hz, _, rfl, _, _, rfl, rfl, _, _, rfl, ?_⟩
    rw [elb]
    rw [elb] at hlv
    -- the end: (ahead, pair, values, ..)
    have fin : ∀ (H1 : Hp) (ah : Nat) (vp' : V) (pv' : Addr) (x' y' : Nat) (va : List Nat), Same H H1 → PairAt K H1 vp' x' y' → SqT K H1 pv' (va.map fun n : Nat => V.int (n : Int)) → goL ls.length pick s l = finL ls.length ⟨ah, x', y', va, none⟩ → ∀ q, H1 q = none →
        Q (.ref q) (upd H1 q (.tup [.int (ah : Int), vp', .ref pv', if ah = ls.length then .str "end" else .non])) := fun H1 ah vp' pv' x' y' va e hp' hv' eg q hq => by
      refine k _ _ (e.trans (same_new hq)) ?_
      rw [eg]
      refine rst_dp (SqT.of upd_same) rfl (hp'.same (same_new hq)) (seqT (same_new hq) hv') ?_
      unfold finL
      dsimp only
      split <;> rfl
    have back : ∀ (H1 : Hp) (z : Str), Same H H1 → goL ls.length pick s l = { s with out := some z } → ∀ q, H1 q = none → Q (.ref q) (upd H1 q (.tup [.int (s.at_ : Int), vp, .ref pv, .str z])) := fun H1 z e eg q hq => by
      refine k _ _ (e.trans (same_new hq)) ?_
      rw [eg]
      exact rst_dp (SqT.of upd_same) rfl ((hP.same e).same (same_new hq)) (seqT (same_new hq) (seqT e hV)) rfl
    refine ⟨fun σ H' => ∃ (ah : Nat) (vp' : V) (pv' : Addr) (x' y' : Nat) (va : List Nat) (s8 s9 : Option V), σ = [some (.ref a), some (.ref sa), some (.int (if pick = true then 1 else 0)), some (.int (s.at_ : Int)), some vp', some (.ref pv'), some (outV s.out), some (.ref lb), some (.int (ah : Int)), s8, s9] ∧ Same H H' ∧ PairAt K H' vp' x' y' ∧ SqT K H' pv' (va.map fun n : Nat => V.int (n : Int)) ∧ goL ls.length pick s l = finL ls.length ⟨ah, x', y', va, none⟩, ?_, ?_⟩
    rotate_left
    · rintro σ H1 ⟨ah, vp', pv', x', y', va, s8, s9, rfl, e1, hp', hv', eg⟩
      refine ⟨_, rfl, _, rfl, _, rfl, _, rfl, _, rfl, a, us, rfl, .inl (Same.seq e1 hL), rfl, _, rfl, ?_⟩
      have f := fin H1 ah vp' pv' x' y' va e1 hp' hv' eg
      by_cases c : ah = ls.length
      · refine ite_t (by rw [hul]; exact deq (by omega)) ⟨z4, fun q hq => ?_⟩
        have g := f q hq
        rw [if_pos c] at g
        exact g
      · refine ite_f (by rw [hul]; exact dne (by omega)) ⟨z4, fun q hq => ?_⟩
        have g := f q hq
        rw [if_neg c] at g
        exact g
    have eat : ((s.at_ : Int) + 1) = ((s.at_ + 1 : Nat) : Int) := rfl
    refine ⟨_, rfl, lb, _, _, _, rfl, rfl, hB, at_0 _ _, ?_⟩
    cases l with
    | add ax =>
      refine ⟨rfl, _, rfl, ite_t (Lin.w_is (.add ax) 0) ?_⟩
      refine ⟨_, rfl, _, rfl, _, _, _, s.x, s.y, rfl, hlv, .inl rfl, hP, fun v' H1 e1 hm => ⟨_, rfl, rfl, _, rfl, ?_⟩⟩
      cases hmv : movedL (.add ax) s.x s.y with
      | none => cases ax <;> cases hmv
      | some p =>
        rw [hmv] at hm
        obtain ⟨hpa, q, rfl, hq⟩ := hm
        refine ite_f (by rfl) ⟨_, rfl, s.at_ + 1, .ref q, pv, p.1, p.2, s.vs, _, _, rfl, e1, hpa, seqT e1 hV, ?_⟩
        show (match movedL (.add ax) s.x s.y with
          | some p => finL ls.length { s with x := p.1, y := p.2, at_ := s.at_ + 1 }
          | none => { s with out := some "below" }) = _
        rw [hmv]
        rfl
    | take ax =>
      refine ⟨rfl, _, rfl, ite_f (Lin.w_is (.take ax) 0) ⟨rfl, _, rfl, ite_t (Lin.w_is (.take ax) 1) ?_⟩⟩
      refine ⟨_, rfl, _, rfl, _, _, _, s.x, s.y, rfl, hlv, .inr rfl, hP, fun v' H1 e1 hm => ⟨_, rfl, rfl, _, rfl, ?_⟩⟩
      cases hmv : movedL (.take ax) s.x s.y with
      | none =>
        rw [hmv] at hm
        subst hm
        refine ite_t (by rfl) ⟨_, rfl, _, rfl, _, rfl, z4, fun q hq => back H1 "below" e1 ?_ q hq⟩
        show (match movedL (.take ax) s.x s.y with
          | some p => finL ls.length { s with x := p.1, y := p.2, at_ := s.at_ + 1 }
          | none => { s with out := some "below" }) = _
        rw [hmv]
      | some p =>
        rw [hmv] at hm
        obtain ⟨hpa, q, rfl, hq⟩ := hm
        refine ite_f (by rfl) ⟨_, rfl, s.at_ + 1, .ref q, pv, p.1, p.2, s.vs, _, _, rfl, e1, hpa, seqT e1 hV, ?_⟩
        show (match movedL (.take ax) s.x s.y with
          | some p => finL ls.length { s with x := p.1, y := p.2, at_ := s.at_ + 1 }
          | none => { s with out := some "below" }) = _
        rw [hmv]
        rfl
    | set v n =>
      obtain ⟨u1, u2, rfl, g1, g2⟩ := DpAll.two' hC
      obtain rfl := Dp.strE g1
      obtain rfl := Dp.intE g2
      have hj := v3_lt v
      have hl2 := hs.len
      refine ⟨rfl, _, rfl, ite_f (Lin.w_is (.set v n) 0) ⟨rfl, _, rfl, ite_f (Lin.w_is (.set v n) 1) ⟨rfl, _, rfl, ite_t (Lin.w_is (.set v n) 2) ?_⟩⟩⟩
      refine ⟨ty_VARIABLES E _, _, rfl, lb, _, _, _, rfl, rfl, hB, at_1 _ _ _, _, ["a", "b", "c"], v.s, v.j, rfl, rfl, at_VARIABLES E _, v3_sat v, v3_sne v, ?_⟩
      have lv : (s.vs.map fun n : Nat => V.int (n : Int)).length = 3 := by rw [List.length_map, hl2]
      refine ⟨_, rfl, _, rfl, _, rfl, pv, _, rfl, hV, nwTo (by omega), fun p1 hp1 => ?_⟩
      rw [cut_to' (by omega)]
      have f2 := same_new (o := .tup ((s.vs.map fun n : Nat => V.int (n : Int)).take v.j)) hp1
      refine ⟨_, rfl, lb, _, _, _, rfl, rfl, seqT f2 hB, at_2 _ _ _ _, z1, fun p2 hp2 => ?_⟩
      have f3 := same_new (o := .tup [V.int (n : Int)]) hp2
      refine catA_ok (seqT f3 (SqT.of upd_same)) (SqT.of upd_same) (by rw [List.length_take]; show _ + 1 ≤ _; omega) fun p3 H4 e4 hs4 => ?_
      have e14 := f2.trans (f3.trans e4)
      refine ⟨_, rfl, _, rfl, _, _, rfl, rfl, _, rfl, pv, _, rfl, seqT e14 hV, nwFrom (j := v.j + 1) (by omega) (by omega), fun p5 hp5 => ?_⟩
      have ecut : cutV (s.vs.map fun n : Nat => V.int (n : Int)) (some ((v.j : Int) + 1)) none = (s.vs.map fun n : Nat => V.int (n : Int)).drop (v.j + 1) := cut_from _ (v.j + 1)
      rw [ecut]
      have f5 := same_new (o := .tup ((s.vs.map fun n : Nat => V.int (n : Int)).drop (v.j + 1))) hp5
      refine catA_ok (seqT f5 hs4) (SqT.of upd_same) (by rw [List.length_append, List.length_take, List.length_drop]; show _ + 1 + _ ≤ _; omega) fun p6 H7 e7 hs7 => ?_
      have e17 := e14.trans (f5.trans e7)
      rw [set_cut (by omega)] at hs7
      exact ⟨s.at_ + 1, vp, p6, s.x, s.y, s.vs.set v.j n, _, _, rfl, e17, hP.same e17, hs7, rfl⟩
    | test t tg =>
      obtain ⟨u1, u2, rfl, g1, g2⟩ := DpAll.two' hC
      obtain rfl := Dp.intE g2
      obtain ⟨pp, rfl, hpp⟩ := id hP
      refine ⟨rfl, _, rfl, ite_f (Lin.w_is (.test t tg) 0) ⟨rfl, _, rfl, ite_f (Lin.w_is (.test t tg) 1) ⟨rfl, _, rfl, ite_f (Lin.w_is (.test t tg) 2) ⟨rfl, _, rfl, ite_t (Lin.w_is (.test t tg) 3) ?_⟩⟩⟩⟩
      refine ⟨_, rfl, lb, _, _, _, rfl, rfl, hB, at_1 _ _ _, _, rfl, _, rfl, u1, t, pp, pv, s.x, s.y, s.vs, rfl, g1, hx.1, hpp, hV, hs.len, fun H1 e1 => ⟨_, rfl, ?_⟩⟩
      have eg : ∀ b, t.tru s.x s.y s.vs = b → goL ls.length pick s (.test t tg) = finL ls.length ⟨if b = true then tg else s.at_ + 1, s.x, s.y, s.vs, none⟩ := fun b hb => by
        show finL ls.length { s with at_ := if t.tru s.x s.y s.vs = true then tg else s.at_ + 1 } = _
        rw [hb]
        rfl
      cases hb : t.tru s.x s.y s.vs with
      | true => exact ite_t rfl ⟨_, rfl, lb, _, _, _, rfl, rfl, seqT e1 hB, at_2 _ _ _ _, tg, .ref pp, pv, s.x, s.y, s.vs, _, _, rfl, e1, hP.same e1, seqT e1 hV, eg true hb⟩
      | false => exact ite_f rfl ⟨_, rfl, s.at_ + 1, .ref pp, pv, s.x, s.y, s.vs, _, _, rfl, e1, hP.same e1, seqT e1 hV, eg false hb⟩
    | choose tg =>
      obtain ⟨u1, rfl, g1⟩ := DpAll.one' hC
      obtain rfl := Dp.intE g1
      refine ⟨rfl, _, rfl, ite_f (Lin.w_is (.choose tg) 0) ⟨rfl, _, rfl, ite_f (Lin.w_is (.choose tg) 1) ⟨rfl, _, rfl, ite_f (Lin.w_is (.choose tg) 2) ⟨rfl, _, rfl, ite_f (Lin.w_is (.choose tg) 3) ⟨rfl, _, rfl, ite_t (Lin.w_is (.choose tg) 4) ?_⟩⟩⟩⟩⟩
      refine ⟨_, rfl, rfl, _, rfl, ?_⟩
      cases pick with
      | true => exact ite_t rfl ⟨_, rfl, lb, _, _, _, rfl, rfl, hB, at_1 _ _ _, tg, vp, pv, s.x, s.y, s.vs, _, _, rfl, Same.refl _, hP, hV, rfl⟩
      | false => exact ite_f rfl ⟨_, rfl, s.at_ + 1, vp, pv, s.x, s.y, s.vs, _, _, rfl, Same.refl _, hP, hV, rfl⟩
    | go tg =>
      obtain ⟨u1, rfl, g1⟩ := DpAll.one' hC
      obtain rfl := Dp.intE g1
      refine ⟨rfl, _, rfl, ite_f (Lin.w_is (.go tg) 0) ⟨rfl, _, rfl, ite_f (Lin.w_is (.go tg) 1) ⟨rfl, _, rfl, ite_f (Lin.w_is (.go tg) 2) ⟨rfl, _, rfl, ite_f (Lin.w_is (.go tg) 3) ⟨rfl, _, rfl, ite_f (Lin.w_is (.go tg) 4) ⟨rfl, _, rfl, ite_t (Lin.w_is (.go tg) 5) ?_⟩⟩⟩⟩⟩⟩
      exact ⟨_, rfl, lb, _, _, _, rfl, rfl, hB, at_1 _ _ _, tg, vp, pv, s.x, s.y, s.vs, _, _, rfl, Same.refl _, hP, hV, rfl⟩
    | stop z =>
      obtain ⟨u1, rfl, g1⟩ := DpAll.one' hC
      obtain rfl := Dp.strE g1
      refine ⟨rfl, _, rfl, ite_f (Lin.w_is (.stop z) 0) ⟨rfl, _, rfl, ite_f (Lin.w_is (.stop z) 1) ⟨rfl, _, rfl, ite_f (Lin.w_is (.stop z) 2) ⟨rfl, _, rfl, ite_f (Lin.w_is (.stop z) 3) ⟨rfl, _, rfl, ite_f (Lin.w_is (.stop z) 4) ⟨rfl, _, rfl, ite_f (Lin.w_is (.stop z) 5) ⟨rfl, _, rfl, ite_t (Lin.w_is (.stop z) 6) ?_⟩⟩⟩⟩⟩⟩⟩
      exact ⟨_, rfl, _, rfl, _, rfl, _, rfl, lb, _, _, _, rfl, rfl, hB, at_1 _ _ _, z4, fun q hq => back H z (Same.refl _) rfl q hq⟩

/-! ### is_number -/
/-- by the value's type alone -/
def sp_is_number (K : PySem.W.Frag) : Sp := fun vs H Q _ => ∃ (v : V) (t : String) (b1 b2 : Bool), vs = [v] ∧ TyX K H v (.type t) ∧ kitB t "int" = some b1 ∧ kitB t "bool" = some b2 ∧ Q (.bl (b1 && !b2)) H
theorem sp_number_int {K : PySem.W.Frag} {H : Hp} {Q : VK} {E : XK} {i : Int} (q : Q (.bl true) H) : sp_is_number K [.int i] H Q E := ⟨_, "int", true, false, rfl, .base (.int i), by decide +kernel, by decide +kernel, q⟩

theorem sc_is_number : FnScope ["value"] ["value"] (defScope s_is_number) := ⟨rfl, rfl, rfl, by decide +kernel, rfl, by decide +kernel, by decide +kernel⟩
theorem ok_is_number (E : En K mg) : Good P w K mg base CX0 1 "is_number" ["value"] (sp_is_number K) := by
  obtain ⟨fd, F⟩ := E.says.def_ 9 (d := d_is_number) rfl
  refine ⟨fd, ?_, F.bindsN fun _ _ _ _ _ _ us hl => match us, hl with | [_], _ => rfl, F.kp, E.gl "is_number"⟩
  refine F.ok sc_is_number (fun vs H Q E' h => ?_) (fun cdv A outer s H vs Q E' hr h => ?_)
  · obtain ⟨v, t, b1, b2, rfl, _⟩ := h; rfl
  · have hu64 := hu64_of hr
    refine ⟨_, PSs.nox (pss_one (ps_ret (pe_and (pe_callB call_isi (by rfl) (E.fr "isinstance") (by decide +kernel) (pa_cons (pv 0) (pa_cons (pe_bltn (v := .ty "int") (by rfl) (E.fr "int") (by decide +kernel) rfl) pa_nil))) (pe_one (pe_not (pe_callB call_isi (by rfl) (E.fr "isinstance") (by decide +kernel) (pa_cons (pv 0) (pa_cons (pe_bltn (v := .ty "bool") (by rfl) (E.fr "bool") (by decide +kernel) rfl) pa_nil)))))))), ?_⟩
    obtain ⟨v, t, b1, b2, rfl, T, e1, e2, k⟩ := h
    refine ⟨_, rfl, _, _, _, _, _, rfl, .ty _, T, kit_ty e1, _, rfl, ?_⟩
    cases b1 with
    | false => exact ite_f rfl k
    | true => exact ite_t rfl ⟨_, rfl, _, _, _, _, _, rfl, .ty _, T, kit_ty e2, _, rfl, k⟩

/-! ### Runner.step -/
/-- one step of a runner, or none -/
def sp_Runner_step (K : PySem.W.Frag) : Sp := fun vs H Q E => ∃ (a pl rl p C : Addr) (more : List (Str × V)) (us : List V) (ls : List Lin) (s : RSt) (hs : List RSt) (pick : Bool), vs = [.ref a, .int (if pick = true then 1 else 0)] ∧ RunP K C more H a pl rl p us ls s hs ∧ s.Ok ls.length ∧ hs.length ≤ 1000 ∧
  ((∃ z, s.out = some z ∧ ∀ d, H d = none → E (.ref (He.ga K "Ended")) (some d) (upd H d (.xd [("name", .str z), ("tag", .str "Ended")]))) ∨
   (s.out = none ∧ ∀ l, ls[s.at_]? = some l → ∀ H', MvR a pl H H' → RunP K C more H' a pl rl p us ls (goL ls.length pick s l) (hs ++ [s]) → Q (.int (s.at_ : Int)) H'))
theorem rs4_0 (a b c d : V) : atI [a, b, c, d] 0 = some a := rfl
theorem rs4_3 (a b c d : V) : atI [a, b, c, d] 3 = some d := rfl

theorem sc_Runner_step : FnScope ["self", "choice", "line"] ["self", "choice"] (defScope s_Runner_step) := ⟨rfl, rfl, rfl, by decide +kernel, rfl, by decide +kernel, by decide +kernel⟩
theorem ok_Runner_step (E : En K mg) (G_behind : Good P w K mg base CX0 2 "behind" ["rows", "state", "choice"] (sp_behind K)) (G_is_number : Good P w K mg base CX0 1 "is_number" ["value"] (sp_is_number K)) (X_Ended : GoodI EB.ve P w K mg base CX0 1 (He.ga K "Ended") "Ended" ["self", "name"] (spI1 (He.ga K "Ended") "Ended" "name" OkF)) : GoodMN P w K mg base (L2.CX P w) 3 (He.ma K (He.ga K "Runner") "step") 1 ["choice"] ["self", "choice"] (fun vs zs => vs ++ zs) (sp_Runner_step K) ∧ GoodMN P w K mg base (L2.CX P w) 3 (He.ma K (He.ga K "Runner") "step") 1 [] ["self", "choice"] (fun vs zs => vs ++ [V.int 0]) (sp_Runner_step K) := by
  obtain ⟨fd, F⟩ := E.says.def_ 10 (d := d_Runner_step) rfl
  suffices ok : FnOk P w K mg base (L2.CX P w) 3 (He.ma K (He.ga K "Runner") "step") fd ["self", "choice"] (sp_Runner_step K) by
    refine ⟨⟨fd, ok, fun us ws => us ++ ws, ⟨fun s us ws X l1 l2 => ?_, fun r1 r2 => r1.append r2⟩⟩, ?_⟩
    · match us, ws, l1, l2 with
      | [_], [_], _, _ => exact bindsWK F (fun _ _ _ _ _ _ => rfl) s
    · obtain ⟨ds, rd, hb⟩ := F.binds0 (ps := ["self", "choice"]) 1 (fun z => by cases z) rfl (fun D doc pm an cdv ct us ks l1 l2 => match us, ks, l1, l2 with | [_], [_], _, _ => ⟨_, _, _, _, _, _, rfl, rfl, rfl⟩)
      refine ⟨fd, ok, fun us _ => us ++ ds, ⟨fun s us ws X l1 l2 => ?_, fun r1 _ => r1.append rd⟩⟩
      obtain rfl : ws = [] := List.eq_nil_of_length_eq_zero l2
      exact hb s us X (by rw [List.length_append, l1, ← rd.length]; rfl)
  refine F.ok sc_Runner_step (fun vs H Q E' h => ?_) (fun cdv A outer s H vs Q E' hr h => ?_)
  · obtain ⟨a, pl, rl, p, C, more, us, ls, s, hs, pick, rfl, _⟩ := h; rfl
  · have hu64 := hu64_of hr
    refine ⟨_, (pss_cons (ps_if (pt_cmpR op_notN (pe_ix ix_tup (pe_fld (pv 0) (by rfl)) pe_int (fun _ _ => rfl)) pe_non (nomark _))
        (pss_one (ps_raise rfl (takes_of (E := E') rfl rfl rfl rfl) (pmk_1 X_Ended (hr.mono (by decide)) rfl pass0 (pa_cons (pe_ix ix_tup (pe_fld (pv 0) (by rfl)) pe_int (fun _ _ => rfl)) pa_nil))))
        pss_nil)
      (pss_cons (ps_if (PW.pt (pw_or (pt_not (pt_val (pe_G G_is_number (hr.mono (by decide)) rfl pass0 (pa_cons (pv 1) pa_nil)))) (pw_or1 (pt_cmpR op_notIn_seq (pv 1) (pe_tup (pa_cons pe_int (pa_cons pe_int pa_nil))) (by rfl)))))
        (pss_one ps_never)
        pss_nil)
      (pss_cons (ps_set (i := 2) sc_Runner_step.nd rfl (by first | exact Or.inl rfl | exact Or.inr rfl) (pe_ix ix_tup (pe_fld (pv 0) (by rfl)) pe_int (fun _ _ => rfl)))
      (pss_cons (ps_expr (pe_bm PySem.F.plainAttrs_list PySem.F.slot_list_append PySem.F.type_list_append mt_append (pe_fld (pv 0) (by rfl)) (pa_cons (pe_fld (pv 0) (by rfl)) pa_nil)))
      (pss_cons (ps_fld (pv 0) (pe_G G_behind (hr.mono (by decide)) rfl pass0 (pa_cons (pe_fld (pv 0) (by rfl)) (pa_cons (pe_fld (pv 0) (by rfl)) (pa_cons (pv 1) pa_nil)))) rfl)
      (pss_one (ps_ret (pv 2)))))))), ?_⟩
    obtain ⟨a, pl, rl, p, C, more, us, ls, s, hist, pick, rfl, hR, hs, hn, k⟩ := h
    have rc := hR.rc
    have hA := hR.prog.dp
    have hok := hR.prog.ok
    have hl : ls.length ≤ 1000 := Nat.le_trans hR.prog.l1 (by decide)
    obtain ⟨dx, v, ps, h1, h2, h3, h4⟩ := hR.ex
    have hpl : ps.length = hist.length := by
      have := DpAll.length h4
      rw [List.length_map] at this
      exact this
    obtain ⟨sa, vp, pv, rfl, hS, hP, hV⟩ := Dp.rst h2
    refine ⟨_, rfl, a, _, dx, _, _, rfl, h1, rc.cls, rc.n3, rfl, sa, _, _, _, rfl, rfl, hS, rs4_3 _ _ _ _, rfl, _, rfl, ?_⟩
    have z2 : 2 ≤ sizeLine := by decide
    cases ho : s.out with
    | some z =>
      rw [ho] at hS
      refine ite_t (by rfl) ⟨_, rfl, a, _, dx, _, _, rfl, h1, rc.cls, rc.n3, rfl, sa, _, _, _, rfl, rfl, hS, rs4_3 _ _ _ _, _, rfl, fun a' _ => .inl ⟨z, rfl, Nat.le_trans (hs.ol z ho) (by decide)⟩, ?_⟩
      rcases k with ⟨z', hz, k⟩ | ⟨hz, _⟩
      · rw [ho] at hz
        cases hz
        exact k
      · rw [ho] at hz; cases hz
    | none =>
      have k : ∀ l, ls[s.at_]? = some l → ∀ H', MvR a pl H H' → RunP K C more H' a pl rl p us ls (goL ls.length pick s l) (hist ++ [s]) → Q (.int (s.at_ : Int)) H' := by
        rcases k with ⟨z', hz, k⟩ | ⟨_, k⟩
        · rw [ho] at hz; cases hz
        · exact k
      refine ite_f (by rfl) ⟨_, rfl, _, "int", true, false, rfl, .base (.int _), by decide +kernel, by decide +kernel, true, rfl, ite_f rfl ?_⟩
      refine ⟨_, rfl, z2, fun p1 hp1 => ⟨p1, _, rfl, .inr (SqT.of upd_same), rfl, rfl, _, rfl, ite_f ?_ ?_⟩⟩
      · show (!inV (V.int (if pick = true then 1 else 0)) [V.int 0, V.int 1]) = false
        cases pick <;> decide +kernel
      have e1 := same_new (o := .tup [V.int 0, .int 1]) hp1
      have h1' := e1 _ _ h1
      have h3' := e1 _ _ h3
      have hst := Dp.same e1 h2
      have hS1 := seqT e1 hS
      have hr1 := e1 _ _ hR.rows
      have hA1 := Dp.sameAll e1 hA
      have m1 : MvR a pl H (upd H p1 (.tup [V.int 0, .int 1])) := .of e1
      generalize upd H p1 (.tup [V.int 0, .int 1]) = H1 at *
      refine ⟨_, rfl, a, _, dx, _, _, rfl, h1', rc.cls, rc.n3, rfl, sa, _, _, _, rfl, rfl, hS1, rs4_0 _ _ _ _, ?_⟩
      refine ⟨_, rfl, a, _, dx, _, _, rfl, h1', rc.cls, rc.n4, rfl, .inl ⟨rfl, _, SqL.of h3'⟩, _, rfl, a, _, dx, _, _, rfl, h1', rc.cls, rc.n3, rfl, pl, ps, _, rfl, rfl, h3', szl (by omega), ?_⟩
      have npa : a ≠ pl := fun z => by rw [z, h3'] at h1'; cases h1'
      have npr : rl ≠ pl := hR.ne
      have t2 : TupX H1 (upd H1 pl (.lst (ps ++ [.ref sa]))) := .putL h3'
      have h1'' : (upd H1 pl (.lst (ps ++ [.ref sa]))) a = some (.ins C dx (("source", .ref p) :: ("rows", .ref rl) :: ("state", .ref sa) :: ("past", .ref pl) :: more)) := by rw [upd_ne npa]; exact h1'
      have hr2 : (upd H1 pl (.lst (ps ++ [.ref sa]))) rl = some (.lst us) := by rw [upd_ne npr]; exact hr1
      have hp2 : (upd H1 pl (.lst (ps ++ [.ref sa]))) pl = some (.lst (ps ++ [.ref sa])) := upd_same
      have hst2 := Dp.tupX t2 (RSt.nl s) hst
      have hA2 := Dp.tupXs t2 (lin_nls ls) hA1
      have m2 : MvR a pl H (upd H1 pl (.lst (ps ++ [.ref sa]))) := m1.putP
      generalize upd H1 pl (.lst (ps ++ [.ref sa])) = H2 at *
      have hlt := hs.no ho
      refine ⟨_, rfl, a, _, dx, _, _, rfl, h1'', rc.cls, rc.n2, rfl, _, rfl, a, _, dx, _, _, rfl, h1'', rc.cls, rc.n3, rfl, _, rfl, rl, us, ls, .ref sa, s, pick, rfl, SqL.of hr2, hA2, hok, hl, hst2, hs, hlt, fun l hl' v' H3 e3 hv3 => ?_⟩
      refine ⟨_, rfl, a, _, dx, _, rfl, e3 _ _ h1'', rc.cls, rc.n3, (by have := hR.ml; show more.length + 4 < 1000; omega), _, rfl, ?_⟩
      have hI3 := e3 _ _ h1''
      have np := hR.np
      have hP := (hR.prog.mvR (m2.trans (MvR.of e3)) h1 h3 np.1)
      have hA4 := Dp.tupXs (m2.trans (MvR.of e3) |>.tupX h1 h3) (rst_nls hist) h4
      refine k l hl' _ (m2.trans (MvR.of e3)).putA ⟨rc, ⟨dx, v', ps ++ [.ref sa], upd_same, Dp.tupX (.put hI3 id) (RSt.nl _) hv3, by rw [upd_ne npa.symm]; exact e3 _ _ hp2, ?_⟩, ?_, npr, hP.put hI3 np.1, hR.ml⟩
      · rw [List.map_append]
        exact Dp.tupXs (.put hI3 id) (by rw [← List.map_append (l₂ := [s])]; exact rst_nls _) (DpAll.append hA4 (DpAll.one (Dp.same e3 hst2)))
      rw [upd_ne fun z => by rw [← z, e3 _ _ hr2] at hI3; cases hI3]
      exact e3 _ _ hr2

/-! ### CountingRunner.step -/
/-- a step that is made -/
def sp_CountingRunner_step (K : PySem.W.Frag) : Sp := fun vs H Q _ => ∃ (a pl rl p dl : Addr) (us : List V) (ls : List Lin) (s : RSt) (hs : List RSt) (pick : Bool), vs = [.ref a, .int (if pick = true then 1 else 0)] ∧ CouP K (He.ga K "CountingRunner") H a pl rl p dl us ls s hs ∧ s.Ok ls.length ∧ hs.length ≤ 1000 ∧ s.out = none ∧
  ∀ l, ls[s.at_]? = some l → ∀ H', MvC a pl dl H H' → CouP K (He.ga K "CountingRunner") H' a pl rl p dl us ls (goL ls.length pick s l) (hs ++ [s]) → Q (.int (s.at_ : Int)) H'
theorem ixN_natS {n j : Nat} (h : j < n) : ixN n (j : Int) = some j := by
  unfold ixN
  rw [if_pos (by omega), if_pos (by omega)]
  simp

theorem sc_CountingRunner_step : ScopeS ["self", "choice", "line"] ["self", "choice"] (defScope s_CountingRunner_step) := ⟨rfl, rfl, rfl, by decide, rfl, by decide +kernel, by decide +kernel, by decide +kernel, by rfl, by rfl⟩
theorem ok_CountingRunner_step (E : En K mg) (MP : MainP P "/claim/cut.py") (SS : SaysS fns K) (G_Runner_step : GoodMN P w K mg base (L2.CX P w) 3 (He.ma K (He.ga K "Runner") "step") 1 ["choice"] ["self", "choice"] (fun vs zs => vs ++ zs) (sp_Runner_step K) ∧ GoodMN P w K mg base (L2.CX P w) 3 (He.ma K (He.ga K "Runner") "step") 1 [] ["self", "choice"] (fun vs zs => vs ++ [V.int 0]) (sp_Runner_step K)) : GoodMN P w K mg base CX0 4 (He.ma K (He.ga K "CountingRunner") "step") 1 ["choice"] ["self", "choice"] (fun vs zs => vs ++ zs) (sp_CountingRunner_step K) := by
  obtain ⟨e, cc⟩ := SS.def_ 3 (d := dm_CountingRunner_step) rfl
  obtain ⟨kV, doc, pm, ct, an, cd, cl, T, hcd⟩ := DefS.getM (d := dm_CountingRunner_step) MP ⟨_, rfl, rfl⟩ (by decide) (by decide) e cc
  refine ⟨_, supfn_ok (N := ["self", "choice", "line"]) (ps := ["self", "choice"]) (k := 3) T hcd sc_CountingRunner_step (fun vs H Q E' h => ?_) (fun A outer sT H vs Q E' hr h => ?_), fun us ws => us ++ ws, ⟨fun s us ws X l1 l2 => match us, ws, l1, l2 with | [_], [_], _, _ => BindsTo.of_eq rfl, fun r1 r2 => r1.append r2⟩⟩
  · obtain ⟨a, pl, rl, p, dl, us, ls, s, hs, pick, rfl, _⟩ := h; rfl
  · have hu64 := hu64_of hr
    refine ⟨_, (pss_cons (ps_augS (pe_fld (pv 0) (by rfl)) (pv 2) get_list pe_int ip_add set_list)
      (pss_one (ps_ret (pv 2)))), fun s1 I => ?_⟩
    obtain ⟨a, pl, rl, p, dl, us, ls, s, hist, pick, rfl, hC, hs, hn, ho, k⟩ := h
    obtain ⟨dx, v', ps, hea, h2, h3, h4⟩ := hC.run.ex
    have rc := hC.run.rc
    refine sup_asg (X := cxS CX0 P w K mg base ["self", "choice", "line"] _ _ _ (.ref cd) cl A outer sT H E') (i := 2) sc_CountingRunner_step.nd rfl rfl (sup_eval (pl := do return (← (pure (some false) : Sem (Option Bool))).getD true) T sc_CountingRunner_step (E.fr "super") rfl (by rfl) rfl I hea (fun s2 q I2 hb => supcall_kw I2 T.fi G_Runner_step.1 (hr.mono (by decide)) passF (pk_cons (pv 1) pk_nil) ?_) rfl)
    refine ⟨_, rfl, rfl, a, pl, rl, p, _, _, us, ls, s, hist, pick, rfl, hC.run, hs, hn, .inr ⟨ho, fun l hl H1 m R1 => ?_⟩⟩
    obtain ⟨dx1, v1, ps1, h1, g2, g3, g4⟩ := R1.ex
    have hlt := hs.no ho
    have hd1 := m _ _ hC.nda hC.np hC.don
    have hx := cntL_get hist hlt
    refine ⟨_, rfl, a, _, dx1, _, _, rfl, h1, rc.cls, hC.nd, rfl, _, rfl, dl, _, s.at_, .int ((hist.countP fun t => t.at_ == s.at_ : Nat) : Int), rfl, rfl, SqL.of hd1, by rw [List.getElem?_map, hx]; rfl, _, _, rfl, rfl, dl, _, _, s.at_, rfl, rfl, hd1, ixN_natS (by rw [List.length_map, cntL_len]; exact hlt), _, rfl, ?_⟩
    refine k l hl _ (fun c o n1 n2 n3 h => by rw [upd_ne n3]; exact m c o n1 n2 h) ⟨R1.put hd1 hC.np hC.nr, hC.nd, ?_, hC.np, hC.nr⟩
    rw [upd_same, cntL_snoc, List.map_set]
    rfl

/-! ### Program.lines -/
def sp_Program_lines (K : PySem.W.Frag) : Sp := fun vs H Q _ => ∃ (a : Addr) (us : List V) (ls : List Lin), vs = [.ref a] ∧ ProgAt K H a us ls ∧ ∀ q, H q = none → Q (.ref q) (upd H q (.lst us))

theorem sc_Program_lines : FnScope ["self"] ["self"] (defScope s_Program_lines) := ⟨rfl, rfl, rfl, by decide +kernel, rfl, by decide +kernel, by decide +kernel⟩
theorem ok_Program_lines (E : En K mg) : GoodM P w K mg base CX0 1 (He.ma K (He.ga K "Program") "lines") ["self"] (sp_Program_lines K) := by
  obtain ⟨fd, F⟩ := E.says.def_ 11 (d := d_Program_lines) rfl
  refine ⟨fd, ?_, F.bindsN fun _ _ _ _ _ _ us hl => match us, hl with | [_], _ => rfl⟩
  refine F.ok sc_Program_lines (fun vs H Q E' h => ?_) (fun cdv A outer s H vs Q E' hr h => ?_)
  · obtain ⟨a, us, ls, rfl, _⟩ := h; rfl
  · have hu64 := hu64_of hr
    refine ⟨_, PSs.nox (pss_one (ps_ret (pe_callTy call_list_of (by rfl) (E.fr "list") (by decide +kernel) (pa_cons (pe_fld (pv 0) (by rfl)) pa_nil)))), ?_⟩
    obtain ⟨a, us, ls, rfl, hP, k⟩ := h
    obtain ⟨dx, rp, h1, h2, h3⟩ := hP.ex
    exact ⟨_, rfl, a, _, dx, _, _, rfl, h1, En.cls_Program E, En.noat_Program_rows E, rfl, rp, us, rfl, .inr h3, k⟩

/-! ### is_pair -/
/-- a pair of numbers from 0 on that are not both 0 -/
def sp_is_pair (K : PySem.W.Frag) : Sp := fun vs H Q _ => ∃ (v : V) (x y : Nat), vs = [v] ∧ PairAt K H v x y ∧ ¬ (x = 0 ∧ y = 0) ∧ ∀ H', Same H H' → Q (.bl true) H'

theorem sc_is_pair : FnScope ["value"] ["value"] (defScope s_is_pair) := ⟨rfl, rfl, rfl, by decide +kernel, rfl, by decide +kernel, by decide +kernel⟩
theorem ok_is_pair (E : En K mg) (G_is_number : Good P w K mg base CX0 1 "is_number" ["value"] (sp_is_number K)) : Good P w K mg base CX0 2 "is_pair" ["value"] (sp_is_pair K) := by
  obtain ⟨fd, F⟩ := E.says.def_ 12 (d := d_is_pair) rfl
  refine ⟨fd, ?_, F.bindsN fun _ _ _ _ _ _ us hl => match us, hl with | [_], _ => rfl, F.kp, E.gl "is_pair"⟩
  refine F.ok sc_is_pair (fun vs H Q E' h => ?_) (fun cdv A outer s H vs Q E' hr h => ?_)
  · obtain ⟨v, x, y, rfl, _⟩ := h; rfl
  · have hu64 := hu64_of hr
    refine ⟨_, PSs.nox (pss_cons (ps_if (PW.pt (pw_or (pt_not (pt_val (pe_callB call_isi (by rfl) (E.fr "isinstance") (by decide +kernel) (pa_cons (pv 0) (pa_cons (pe_bltn (v := .ty "tuple") (by rfl) (E.fr "tuple") (by decide +kernel) rfl) pa_nil))))) (pw_or (pt_cmpR op_ne (pe_callB call_len_seq (by rfl) (E.fr "len") (by decide +kernel) (pa_cons (pv 0) pa_nil)) pe_int (nomark _)) (pw_or (pt_not (pt_val (pe_G G_is_number (hr.mono (by decide)) rfl pass0 (pa_cons (pe_ix ix_tup (pv 0) pe_int (fun _ _ => rfl)) pa_nil)))) (pw_or1 (pt_not (pt_val (pe_G G_is_number (hr.mono (by decide)) rfl pass0 (pa_cons (pe_ix ix_tup (pv 0) pe_int (fun _ _ => rfl)) pa_nil)))))))))
        (pss_one (ps_ret pe_bl))
        pss_nil)
      (pss_one (ps_ret (pe_and (pe_cmpR op_ge (pe_ix ix_tup (pv 0) pe_int (fun _ _ => rfl)) pe_int (nomark _)) (pe_and (pe_cmpR op_ge (pe_ix ix_tup (pv 0) pe_int (fun _ _ => rfl)) pe_int (nomark _)) (pe_one (pe_cmpR (op_neD hu64) (pv 0) (pe_tup (pa_cons pe_int (pa_cons pe_int pa_nil))) (nomark _)))))))), ?_⟩
    obtain ⟨v, x, y, rfl, ⟨a, rfl, hS⟩, n0, k⟩ := h
    have hT := tyT hS
    -- not a tuple or ..
    refine ⟨_, rfl, _, _, _, _, true, rfl, .ty _, hT, kit_ty (by decide +kernel), _, rfl, ?_⟩
    refine ite_f rfl ⟨_, rfl, a, _, rfl, .inr hS, rfl, _, rfl, ?_⟩
    refine ite_f rfl ⟨_, rfl, a, _, _, _, rfl, rfl, hS, at2_0 _ _, _, "int", true, false, rfl, .base (.int _), by decide +kernel, by decide +kernel, _, rfl, ?_⟩
    refine ite_f rfl ⟨_, rfl, a, _, _, _, rfl, rfl, hS, at2_1 _ _, _, "int", true, false, rfl, .base (.int _), by decide +kernel, by decide +kernel, _, rfl, ?_⟩
    refine ite_f rfl ?_
    -- value[0] >= 0 and value[1] >= 0 and value != (0, 0)
    refine ⟨_, rfl, a, _, _, _, rfl, rfl, hS, at2_0 _ _, _, _, rfl, rfl, _, rfl, ?_⟩
    refine ite_t (decide_eq_true (by show (0 : Int) ≤ (x : Int); omega)) ⟨_, rfl, a, _, _, _, rfl, rfl, hS, at2_1 _ _, _, _, rfl, rfl, _, rfl, ?_⟩
    refine ite_t (decide_eq_true (by show (0 : Int) ≤ (y : Int); omega)) ⟨_, rfl, (by show 2 ≤ sizeLine; decide), fun p hp => ?_⟩
    have e := same_new (o := .tup [.int 0, .int 0]) hp
    have ne : PyData.eqv (.tuple [.int (x : Int), .int (y : Int)]) (.tuple [.int 0, .int 0]) = false := by
      simp [PyData.eqv, PyData.eqvAll]
      omega
    refine ⟨.tuple [.int (x : Int), .int (y : Int)], .tuple [.int 0, .int 0], .tup (seqT e hS) (.cons (.int _) (.cons (.int _) .nil)), .tup (SqT.of upd_same) (.cons (.int _) (.cons (.int _) .nil)), by rfl, by rfl, ?_⟩
    show Q (.bl (!PyData.eqv _ _)) _
    rw [ne]
    exact k _ e

/-! ### need_pair -/
def sp_need_pair (K : PySem.W.Frag) : Sp := fun vs H Q _ => ∃ (v : V) (x y : Nat), vs = [v] ∧ PairAt K H v x y ∧ ¬ (x = 0 ∧ y = 0) ∧ ∀ H', Same H H' → Q .non H'

theorem sc_need_pair : FnScope ["value"] ["value"] (defScope s_need_pair) := ⟨rfl, rfl, rfl, by decide +kernel, rfl, by decide +kernel, by decide +kernel⟩
theorem ok_need_pair (E : En K mg) (G_is_pair : Good P w K mg base CX0 2 "is_pair" ["value"] (sp_is_pair K)) : Good P w K mg base CX0 3 "need_pair" ["value"] (sp_need_pair K) := by
  obtain ⟨fd, F⟩ := E.says.def_ 13 (d := d_need_pair) rfl
  refine ⟨fd, ?_, F.bindsN fun _ _ _ _ _ _ us hl => match us, hl with | [_], _ => rfl, F.kp, E.gl "need_pair"⟩
  refine F.ok sc_need_pair (fun vs H Q E' h => ?_) (fun cdv A outer s H vs Q E' hr h => ?_)
  · obtain ⟨v, x, y, rfl, _⟩ := h; rfl
  · have hu64 := hu64_of hr
    refine ⟨_, PSs.nox (pss_one (ps_if (pt_not (pt_val (pe_G G_is_pair (hr.mono (by decide)) rfl pass0 (pa_cons (pv 0) pa_nil))))
        (pss_one ps_never)
        pss_nil)), ?_⟩
    obtain ⟨v, x, y, rfl, hP, n0, k⟩ := h
    refine ⟨_, rfl, v, x, y, rfl, hP, n0, fun H' e => ⟨true, rfl, ?_⟩⟩
    exact ite_f rfl (k H' e)

/-! ### Runner.__init__ -/
def sp_Runner___init__ (K : PySem.W.Frag) : Sp := fun vs H Q _ => ∃ (a dx p C : Addr) (vp : V) (us : List V) (ls : List Lin) (x y : Nat), vs = [.ref a, .ref p, vp] ∧ RCls K C ∧ H a = some (.ins C dx []) ∧ ProgAt K H p us ls ∧ PairAt K H vp x y ∧ ¬ (x = 0 ∧ y = 0) ∧
  ∀ pl rl H', Off a H H' → H pl = none → H rl = none → RunP K C [] H' a pl rl p us ls ⟨0, x, y, [0, 0, 0], none⟩ [] → Q .non H'

theorem sc_Runner___init__ : FnScope ["self", "program", "pair"] ["self", "program", "pair"] (defScope s_Runner___init__) := ⟨rfl, rfl, rfl, by decide +kernel, rfl, by decide +kernel, by decide +kernel⟩
theorem ok_Runner___init__ (E : En K mg) (G_Program_lines : GoodM P w K mg base CX0 1 (He.ma K (He.ga K "Program") "lines") ["self"] (sp_Program_lines K)) (G_need_pair : Good P w K mg base CX0 3 "need_pair" ["value"] (sp_need_pair K)) : GoodM P w K mg base CX0 4 (He.ma K (He.ga K "Runner") "__init__") ["self", "program", "pair"] (sp_Runner___init__ K) ∧ GoodMN P w K mg base CX0 4 (He.ma K (He.ga K "Runner") "__init__") 1 ["pair", "program"] ["self", "program", "pair"] (fun vs zs => vs ++ zs.reverse) (sp_Runner___init__ K) := by
  obtain ⟨fd, F⟩ := E.says.def_ 14 (d := d_Runner___init__) rfl
  suffices ok : FnOk P w K mg base CX0 4 (He.ma K (He.ga K "Runner") "__init__") fd ["self", "program", "pair"] (sp_Runner___init__ K) by
    refine ⟨⟨fd, ok, F.bindsN fun _ _ _ _ _ _ us hl => match us, hl with | [_, _, _], _ => rfl⟩, fd, ok, fun us ws => us ++ ws.reverse, ⟨fun s us ws X l1 l2 => ?_, fun r1 r2 => r1.append r2.reverse⟩⟩
    match us, ws, l1, l2 with
    | [_], [_, _], _, _ => exact bindsWK F (fun _ _ _ _ _ _ => rfl) s
  refine F.ok sc_Runner___init__ (fun vs H Q E' h => ?_) (fun cdv A outer s H vs Q E' hr h => ?_)
  · obtain ⟨a, dx, p, C, vp, us, ls, x, y, rfl, _⟩ := h; rfl
  · have hu64 := hu64_of hr
    refine ⟨_, PSs.nox (pss_cons (ps_expr (pe_G G_need_pair (hr.mono (by decide)) rfl pass0 (pa_cons (pv 2) pa_nil)))
      (pss_cons (ps_fld (pv 0) (pv 1) rfl)
      (pss_cons (ps_fld (pv 0) (pe_mG0 (pv 1) (En.cls_Program E) (En.meth_Program_lines E) G_Program_lines (hr.mono (by decide)) pass0) rfl)
      (pss_cons (ps_fld (pv 0) (pe_tup (pa_cons pe_int (pa_cons (pv 2) (pa_cons (pe_tup (pa_cons pe_int (pa_cons pe_int (pa_cons pe_int pa_nil)))) (pa_cons pe_non pa_nil))))) rfl)
      (pss_one (ps_fld (pv 0) (pe_lst pa_nil) rfl)))))), ?_⟩
    obtain ⟨a, dx, p, C, vp, us, ls, x, y, rfl, rc, hA, hP, hp, nz, k⟩ := h
    have z0 : 0 ≤ sizeLine := by decide
    have z3 : 3 ≤ sizeLine := by decide
    have z4 : 4 ≤ sizeLine := by decide
    have npa : p ≠ a := fun z => by
      obtain ⟨d, rp, h1, _⟩ := hP.ex
      rw [z, hA] at h1
      have q := congrArg (fun o : Option HO => match o with | some (HO.ins _ _ fs) => fs.length | _ => 0) h1
      cases q
    refine ⟨_, rfl, vp, x, y, rfl, hp, nz, fun H1 e1 => ?_⟩
    have hA1 := e1 _ _ hA
    refine ⟨_, rfl, _, rfl, a, _, dx, [], rfl, hA1, rc.cls, rc.n1, (by show 0 < 1000; decide), ?_⟩
    generalize hH2 : upd H1 a (.ins C dx _) = H2
    have hA2 : H2 a = some (.ins C dx [("source", .ref p)]) := by rw [← hH2]; exact upd_same
    have hP2 : ProgAt K H2 p us ls := by rw [← hH2]; exact (hP.same e1).put hA1 npa
    have o2 : Off a H H2 := by rw [← hH2]; exact (Off.of e1).put
    have hp2 : PairAt K H2 vp x y := by rw [← hH2]; exact (hp.same e1).sameI (.put hA1)
    clear hH2
    obtain ⟨pdx, rp, g1, _⟩ := hP2.ex
    refine ⟨_, rfl, p, pdx, _, rfl, g1, rfl, p, us, ls, rfl, hP2, fun rl hrl => ?_⟩
    have e3 := same_new (o := .lst us) hrl
    have hA3 := e3 _ _ hA2
    have hp3 := hp2.same e3
    have hP3 := hP2.same e3
    have o3 := o2.trans (Off.of e3)
    have hrlH : H rl = none := by
      cases q : H rl with
      | none => rfl
      | some o =>
        by_cases c : rl = a
        · rw [c, hA2] at hrl; cases hrl
        · rw [o2 _ _ c q] at hrl; cases hrl
    have hR3 : (upd H2 rl (.lst us)) rl = some (.lst us) := upd_same
    generalize upd H2 rl (.lst us) = H3 at *
    refine ⟨_, rfl, a, _, dx, _, rfl, hA3, rc.cls, rc.n2, (by show 1 < 1000; decide), ?_⟩
    generalize hH4 : upd H3 a (.ins C dx _) = H4
    have hA4 : H4 a = some (.ins C dx [("source", .ref p), ("rows", .ref rl)]) := by rw [← hH4]; exact upd_same
    have o4 : Off a H H4 := by rw [← hH4]; exact o3.put
    have hp4 : PairAt K H4 vp x y := by rw [← hH4]; exact hp3.sameI (.put hA3)
    have hP4 : ProgAt K H4 p us ls := by rw [← hH4]; exact hP3.put hA3 npa
    have nra : rl ≠ a := fun z => by rw [z, hA3] at hR3; cases hR3
    have hR4 : H4 rl = some (.lst us) := by rw [← hH4, upd_ne nra]; exact hR3
    clear hH4
    refine ⟨_, rfl, z3, fun t1 ht1 => ⟨z4, fun t2 ht2 => ?_⟩⟩
    have f1 := same_new (o := .tup [V.int 0, .int 0, .int 0]) ht1
    have f2 := same_new (o := .tup [V.int 0, vp, .ref t1, .non]) ht2
    have hst : Dp K (upd (upd H4 t1 (.tup [V.int 0, .int 0, .int 0])) t2 (.tup [V.int 0, vp, .ref t1, .non])) (.ref t2) (RSt.d ⟨0, x, y, [0, 0, 0], none⟩) := rst_dp (SqT.of upd_same) rfl (hp4.same (f1.trans f2)) (SqT.of (f2 _ _ upd_same)) rfl
    have f := f1.trans f2
    have hA5 := f _ _ hA4
    have hR5 := f _ _ hR4
    have hP5 := hP4.same f
    have o5 := o4.trans (Off.of f)
    generalize upd (upd H4 t1 _) t2 _ = H5 at *
    refine ⟨_, rfl, a, _, dx, _, rfl, hA5, rc.cls, rc.n3, (by show 2 < 1000; decide), ?_⟩
    generalize hH6 : upd H5 a (.ins C dx _) = H6
    have hA6 : H6 a = some (.ins C dx [("source", .ref p), ("rows", .ref rl), ("state", .ref t2)]) := by rw [← hH6]; exact upd_same
    have o6 : Off a H H6 := by rw [← hH6]; exact o5.put
    have st6 : Dp K H6 (.ref t2) (RSt.d ⟨0, x, y, [0, 0, 0], none⟩) := by rw [← hH6]; exact Dp.tupX (.put hA5 id) (RSt.nl _) hst
    have hP6 : ProgAt K H6 p us ls := by rw [← hH6]; exact hP5.put hA5 npa
    have hR6 : H6 rl = some (.lst us) := by rw [← hH6, upd_ne nra]; exact hR5
    clear hH6
    refine ⟨z0, fun pl hpl => ?_⟩
    have f7 := same_new (o := .lst []) hpl
    have hA7 := f7 _ _ hA6
    have hR7 := f7 _ _ hR6
    have hP7 := hP6.same f7
    have st7 := Dp.same f7 st6
    have hL7 : (upd H6 pl (.lst [])) pl = some (.lst []) := upd_same
    have o7 := o6.trans (Off.of f7)
    have hplH : H pl = none := by
      cases q : H pl with
      | none => rfl
      | some o =>
        by_cases c : pl = a
        · rw [c, hA6] at hpl; cases hpl
        · rw [o6 _ _ c q] at hpl; cases hpl
    have npr : rl ≠ pl := ne_of_none hR6 hpl
    generalize upd H6 pl (.lst []) = H7 at *
    refine ⟨_, rfl, a, _, dx, _, rfl, hA7, rc.cls, rc.n4, (by show 3 < 1000; decide), ?_⟩
    have npa7 : pl ≠ a := fun z => by rw [z, hA7] at hL7; cases hL7
    refine k pl rl _ o7.put hplH hrlH ⟨rc, ⟨dx, .ref t2, [], upd_same, Dp.tupX (.put hA7 id) (RSt.nl _) st7, by rw [upd_ne npa7]; exact hL7, .nil⟩, by rw [upd_ne nra]; exact hR7, npr, hP7.put hA7 npa, Nat.zero_le _⟩

/-! ### CountingRunner.__init__ -/
/-- a new run that counts -/
def sp_CountingRunner___init__ (K : PySem.W.Frag) : Sp := fun vs H Q _ => ∃ (a dx p : Addr) (vp : V) (us : List V) (ls : List Lin) (x y : Nat), vs = [.ref a, .ref p, vp] ∧ H a = some (.ins (He.ga K "CountingRunner") dx []) ∧ ProgAt K H p us ls ∧ PairAt K H vp x y ∧ ¬ (x = 0 ∧ y = 0) ∧
  ∀ pl rl dl H', Off a H H' → H pl = none → H rl = none → H dl = none → CouP K (He.ga K "CountingRunner") H' a pl rl p dl us ls ⟨0, x, y, [0, 0, 0], none⟩ [] → Q .non H'

theorem sc_CountingRunner___init__ : ScopeS ["self", "program", "pair"] ["self", "program", "pair"] (defScope s_CountingRunner___init__) := ⟨rfl, rfl, rfl, by decide, rfl, by decide +kernel, by decide +kernel, by decide +kernel, by rfl, by rfl⟩
theorem ok_CountingRunner___init__ (E : En K mg) (MP : MainP P "/claim/cut.py") (SS : SaysS fns K) (G_Runner___init__ : GoodM P w K mg base CX0 4 (He.ma K (He.ga K "Runner") "__init__") ["self", "program", "pair"] (sp_Runner___init__ K) ∧ GoodMN P w K mg base CX0 4 (He.ma K (He.ga K "Runner") "__init__") 1 ["pair", "program"] ["self", "program", "pair"] (fun vs zs => vs ++ zs.reverse) (sp_Runner___init__ K)) : GoodM P w K mg base CX0 6 (He.ma K (He.ga K "CountingRunner") "__init__") ["self", "program", "pair"] (sp_CountingRunner___init__ K) := by
  obtain ⟨e, cc⟩ := SS.def_ 4 (d := dm_CountingRunner___init__) rfl
  obtain ⟨kV, doc, pm, ct, an, cd, cl, T, hcd⟩ := DefS.getM (d := dm_CountingRunner___init__) MP ⟨_, rfl, rfl⟩ (by decide) (by decide) e cc
  refine ⟨_, supfn_ok (N := ["self", "program", "pair"]) (ps := ["self", "program", "pair"]) (k := 5) T hcd sc_CountingRunner___init__ (fun vs H Q E' h => ?_) (fun A outer sT H vs Q E' hr h => ?_), Binds.all (fun us hl => match us, hl with | [_, _, _], _ => rfl)⟩
  · obtain ⟨a, dx, p, vp, us, ls, x, y, rfl, _⟩ := h; rfl
  · have hu64 := hu64_of hr
    refine ⟨_, (pss_one (ps_fld (pv 0) (pe_op op_rep (pe_lst (pa_cons pe_int pa_nil)) (pe_callB call_len_seq (by rfl) (E.fr "len") (by decide +kernel) (pa_cons (pe_fld (pv 0) (by rfl)) pa_nil))) rfl)), fun s1 I => ?_⟩
    obtain ⟨a, dx, p, vp, us, ls, x, y, rfl, hA, hP, hp, nz, k⟩ := h
    have z1 : 1 ≤ sizeLine := by decide
    have rc : RCls K (He.ga K "CountingRunner") := ⟨En.cls_CountingRunner E, En.noat_CountingRunner_source E, En.noat_CountingRunner_rows E, En.noat_CountingRunner_state E, En.noat_CountingRunner_past E⟩
    have hea := hA
    refine sup_expr (X := cxS CX0 P w K mg base ["self", "program", "pair"] _ _ _ (.ref cd) cl A outer sT H E') (sup_eval (pl := do return (← (pure (some false) : Sem (Option Bool))).getD true) T sc_CountingRunner___init__ (E.fr "super") rfl (by rfl) rfl I hea (fun s2 q I2 hb => supcall_pos I2 hb T.fi (GoodM.raw G_Runner___init__.1) (hr.mono (by decide)) pass0 (pa_cons (pv 1) (pa_cons (pv 2) pa_nil)) ?_) rfl)
    refine ⟨_, rfl, _, rfl, a, dx, p, _, vp, us, ls, x, y, rfl, rc, hA, hP, hp, nz, fun pl rl H1 off hpl hrl hR => ?_⟩
    obtain ⟨dx1, v, ps, h1, h2, h3, h4⟩ := hR.ex
    have np := hR.np
    have l60 := hR.prog.l1
    have hul := hR.prog.len
    refine ⟨z1, fun l0 hl0 => ?_⟩
    have e1 := same_new (o := .lst [V.int 0]) hl0
    have hR1 := hR.same e1
    have h1' := e1 _ _ h1
    have h2' := Dp.same e1 h2
    have h3' := e1 _ _ h3
    have h4' := Dp.sameAll e1 h4
    have hl0' := upd_same (a := l0) (o := HO.lst [V.int 0]) (H := H1)
    have o1 := off.trans (Off.of e1)
    generalize upd H1 l0 (.lst [V.int 0]) = H2 at *
    refine ⟨_, rfl, a, _, dx1, _, _, rfl, h1', rc.cls, rc.n2, rfl, rl, us, rfl, .inl (SqL.of hR1.rows), l0, _, _, rfl, rfl, hl0', by omega, by omega, ?_, fun dl hdl => ?_⟩
    · exact Bx.sz (by show 1 * ((us.length : Nat) : Int).toNat ≤ _; omega)
    have e2 := same_new (o := .lst (List.replicate ((us.length : Nat) : Int).toNat [V.int 0]).flatten) hdl
    have hR2 := hR1.same e2
    have hd2 := upd_same (a := dl) (o := HO.lst (List.replicate ((us.length : Nat) : Int).toNat [V.int 0]).flatten) (H := H2)
    have h1'' := e2 _ _ h1'
    have h2'' := Dp.same e2 h2'
    have h3'' := e2 _ _ h3'
    have h4'' := Dp.sameAll e2 h4'
    have o2 := o1.trans (Off.of e2)
    have npl : dl ≠ pl := (ne_of_none h3' hdl).symm
    have nrl : dl ≠ rl := (ne_of_none hR1.rows hdl).symm
    have nda : dl ≠ a := (ne_of_none h1' hdl).symm
    have hdlH : H dl = none := by
      cases q : H dl with
      | none => rfl
      | some o =>
        have := o1 _ _ nda q
        rw [hdl] at this
        cases this
    generalize upd H2 dl (.lst (List.replicate ((us.length : Nat) : Int).toNat [V.int 0]).flatten) = H3 at *
    refine ⟨_, rfl, a, _, dx1, _, rfl, h1'', rc.cls, En.noat_CountingRunner_done E, (by show 4 < 1000; decide), ?_⟩
    refine k pl rl dl _ o2.put hpl hrl hdlH ⟨⟨rc, ⟨dx1, v, ps, upd_same, Dp.tupX (.put h1'' id) (RSt.nl _) h2'', by rw [upd_ne np.2.2.1.symm]; exact h3'', Dp.tupXs (.put h1'' id) (rst_nls []) h4''⟩, by rw [upd_ne np.2.2.2]; exact hR2.rows, hR2.ne, hR2.prog.put h1'' np.1, (by show 1 ≤ 10; decide)⟩, En.noat_CountingRunner_done E, ?_, npl, nrl⟩
    rw [upd_ne nda, hd2, cntL_nil, List.map_replicate, ← hul, Int.toNat_natCast]
    congr 2
    generalize us.length = m
    induction m with
    | zero => rfl
    | succ m ih => rw [List.replicate_succ, List.replicate_succ, List.flatten_cons, ih]; rfl

/-! ### is_name -/
/-- a good name -/
def sp_is_name (K : PySem.W.Frag) : Sp := fun vs H Q _ => ∃ z : Str, vs = [.str z] ∧ nameB z = true ∧ ∀ H', Same H H' → Q (.bl true) H'
theorem low_in : ∀ c : Nat, lowB c = true → c ∈ ("abcdefghijklmnopqrstuvwxyz" : Str).cps.toList := fun c h => by
  unfold lowB at h
  rw [Bool.and_eq_true] at h
  have h1 := of_decide_eq_true h.1
  have h2 := of_decide_eq_true h.2
  have all : ∀ i, i < 26 → (97 + i) ∈ ("abcdefghijklmnopqrstuvwxyz" : Str).cps.toList := by
    have : ∀ i ∈ List.range 26, (97 + i) ∈ ("abcdefghijklmnopqrstuvwxyz" : Str).cps.toList := by decide +kernel
    exact fun i hi => this i (List.mem_range.mpr hi)
  have := all (c - 97) (by omega)
  rw [show 97 + (c - 97) = c by omega] at this
  exact this

theorem sc_is_name : FnScope ["value", "sign"] ["value"] (defScope s_is_name) := ⟨rfl, rfl, rfl, by decide +kernel, rfl, by decide +kernel, by decide +kernel⟩
theorem ok_is_name (E : En K mg) : Good P w K mg base CX0 1 "is_name" ["value"] (sp_is_name K) := by
  obtain ⟨fd, F⟩ := E.says.def_ 15 (d := d_is_name) rfl
  refine ⟨fd, ?_, F.bindsN fun _ _ _ _ _ _ us hl => match us, hl with | [_], _ => rfl, F.kp, E.gl "is_name"⟩
  refine F.ok sc_is_name (fun vs H Q E' h => ?_) (fun cdv A outer s H vs Q E' hr h => ?_)
  · obtain ⟨z, rfl, _⟩ := h; rfl
  · have hu64 := hu64_of hr
    refine ⟨_, PSs.nox (pss_cons (ps_if (PW.pt (pw_or (pt_not (pt_val (pe_callB call_isi (by rfl) (E.fr "isinstance") (by decide +kernel) (pa_cons (pv 0) (pa_cons (pe_bltn (v := .ty "str") (by rfl) (E.fr "str") (by decide +kernel) rfl) pa_nil))))) (pw_or1 (pt_not (pt_chain op_le op_le pe_int (pe_callB call_len_str (by rfl) (E.fr "len") (by decide +kernel) (pa_cons (pv 0) pa_nil)) (pe_globI rfl (En.int_MOST_NAME E)))))))
        (pss_one (ps_ret pe_bl))
        pss_nil)
      (pss_one (ps_ret (pe_callB (cr_all rfl) (by rfl) (E.fr "all") (by decide +kernel) (pa_cons (pe_lc (own := [("sign", 1)]) (by rfl) sc_is_name.nd (pi_str (pv 0)) (blkOk_by (N := ["value", "sign"]) (sc := defScope s_is_name) (by decide +kernel)) (by exact fun _ _ _ _ _ => (pg_name (i := 1) sc_is_name.nd rfl (by first | exact Or.inl rfl | exact Or.inr rfl))) (by exact fun _ _ _ _ _ => pts_nil) (by exact fun _ _ _ _ _ => (pe_cmpR op_in_sign (pv 1) pe_str (by rfl)))) pa_nil))))), ?_⟩
    obtain ⟨z, rfl, hz, k⟩ := h
    unfold nameB at hz
    rw [Bool.and_eq_true, Bool.and_eq_true] at hz
    obtain ⟨⟨h1, h2⟩, h3⟩ := hz
    have h1 := of_decide_eq_true h1
    have h2 := of_decide_eq_true h2
    refine ⟨_, rfl, _, _, _, _, true, rfl, .ty _, .base (.str z), kit_ty (by decide +kernel), _, rfl, ?_⟩
    have hzl : z.length ≤ sizeLine := Bx.sz (by omega)
    refine ite_f rfl ⟨_, rfl, _, rfl, hzl, _, _, rfl, rfl, _, rfl, ite_t (decide_eq_true (by omega)) ⟨_, _, rfl, rfl, _, rfl, ?_⟩⟩
    refine ite_f (by rw [decide_eq_true (by omega : (z.length : Int) ≤ 8)]; rfl) ?_
    refine ⟨_, rfl, _, rfl, fun D hD => ?_⟩
    have zs : z.cps.size = z.length := rfl
    refine lc_it (n := z.cps.size) walk_str (fun i H' => Same H H' ∧ H' D = some (.lst ((List.replicate i true).map V.bl))) ⟨same_new hD, upd_same⟩ (fun _ _ _ _ => trivial) ?_ ?_
    · rintro i x H1 H2 hi ⟨e1, hL⟩ ⟨rfl, c, hc, rfl⟩
      refine ⟨rfl, _, rfl, _, _, rfl, rfl, _, hL, ?_, same_mut e1 hD, ?_⟩
      · rw [List.length_map, List.length_replicate]
        exact szl (by omega)
      · have hm : c ∈ z.cps.toList := by
          have := Array.mem_of_getElem? hc
          exact Array.mem_toList_iff.mpr this
        have hlow := List.all_eq_true.mp h3 c hm
        rw [upd_same, List.replicate_succ', List.map_append, decide_eq_true (low_in c hlow)]
        rfl
    rintro H1 ⟨e1, hL⟩
    refine ⟨D, _, rfl, SqL.of hL, ?_⟩
    rw [show (List.replicate z.cps.size true).all id = true by simp]
    exact k H1 e1

/-! ### is_within -/
def sp_is_within (K : PySem.W.Frag) : Sp := fun vs H Q _ => ∃ (v : V) (d : PyData) (m : Int), vs = [v, .int m] ∧ Dp K H v d ∧ Q (.bl (withinD m d)) H

theorem sc_is_within : FnScope ["value", "most"] ["value", "most"] (defScope s_is_within) := ⟨rfl, rfl, rfl, by decide +kernel, rfl, by decide +kernel, by decide +kernel⟩
theorem ok_is_within (E : En K mg) (G_is_number : Good P w K mg base CX0 1 "is_number" ["value"] (sp_is_number K)) : Good P w K mg base CX0 2 "is_within" ["value", "most"] (sp_is_within K) := by
  obtain ⟨fd, F⟩ := E.says.def_ 16 (d := d_is_within) rfl
  refine ⟨fd, ?_, F.bindsN fun _ _ _ _ _ _ us hl => match us, hl with | [_, _], _ => rfl, F.kp, E.gl "is_within"⟩
  refine F.ok sc_is_within (fun vs H Q E' h => ?_) (fun cdv A outer s H vs Q E' hr h => ?_)
  · obtain ⟨v, d, m, rfl, _⟩ := h; rfl
  · have hu64 := hu64_of hr
    refine ⟨_, PSs.nox (pss_one (ps_ret (pe_and (pe_G G_is_number (hr.mono (by decide)) rfl pass0 (pa_cons (pv 0) pa_nil)) (pe_one (pe_chain op_le op_le pe_int (pv 0) (pv 1)))))), ?_⟩
    obtain ⟨v, d, m, rfl, hD, k⟩ := h
    refine ⟨_, rfl, _, _, _, _, rfl, Dp.tyx hD, kit_int d, kit_bool d, _, rfl, ?_⟩
    cases hi : isIntD d with
    | false =>
      have e : ((false || isBoolD d) && !isBoolD d) = false := by cases isBoolD d <;> rfl
      rw [show withinD m d = false by cases d <;> first | rfl | cases hi] at k
      exact ite_f e k
    | true =>
      obtain ⟨i, rfl, rfl⟩ := isInt_of hD hi
      refine ite_t rfl ⟨_, rfl, _, _, rfl, rfl, _, rfl, ?_⟩
      by_cases h0 : 0 ≤ i
      · refine ite_t (decide_eq_true h0) ⟨_, rfl, _, _, rfl, rfl, ?_⟩
        rw [show withinD m (.int i) = decide (i ≤ m) by unfold withinD; dsimp only; rw [decide_eq_true h0]; rfl] at k
        exact k
      · rw [show withinD m (.int i) = false by unfold withinD; dsimp only; rw [decide_eq_false h0]; rfl] at k
        exact ite_f (decide_eq_false h0) k

/-! ### is_one_of -/
def sp_is_one_of (K : PySem.W.Frag) : Sp := fun vs H Q _ => ∃ (v : V) (a : Addr) (d : PyData) (ts : List Str), vs = [v, .ref a] ∧ Dp K H v d ∧ SqT K H a (ts.map V.str) ∧ Q (.bl (inS ts d)) H
theorem flat_strs : ∀ ts : List Str, (ts.map V.str).all flatV = true
  | [] => rfl
  | _ :: ts => by
    rw [List.map_cons, List.all_cons, flat_strs ts]
    rfl

theorem sc_is_one_of : FnScope ["value", "texts"] ["value", "texts"] (defScope s_is_one_of) := ⟨rfl, rfl, rfl, by decide +kernel, rfl, by decide +kernel, by decide +kernel⟩
theorem ok_is_one_of (E : En K mg) : Good P w K mg base CX0 1 "is_one_of" ["value", "texts"] (sp_is_one_of K) := by
  obtain ⟨fd, F⟩ := E.says.def_ 17 (d := d_is_one_of) rfl
  refine ⟨fd, ?_, F.bindsN fun _ _ _ _ _ _ us hl => match us, hl with | [_, _], _ => rfl, F.kp, E.gl "is_one_of"⟩
  refine F.ok sc_is_one_of (fun vs H Q E' h => ?_) (fun cdv A outer s H vs Q E' hr h => ?_)
  · obtain ⟨v, a, d, ts, rfl, _⟩ := h; rfl
  · have hu64 := hu64_of hr
    refine ⟨_, PSs.nox (pss_one (ps_ret (pe_and (pe_callB call_isi (by rfl) (E.fr "isinstance") (by decide +kernel) (pa_cons (pv 0) (pa_cons (pe_bltn (v := .ty "str") (by rfl) (E.fr "str") (by decide +kernel) rfl) pa_nil))) (pe_one (pe_cmpR op_in_seq (pv 0) (pv 1) (by rfl)))))), ?_⟩
    obtain ⟨v, a, d, ts, rfl, hD, hS, k⟩ := h
    refine ⟨_, rfl, _, _, _, _, _, rfl, .ty _, Dp.tyx hD, kit_ty (kit_str d), _, rfl, ?_⟩
    cases ht : isStrD d with
    | false =>
      rw [show inS ts d = false by cases d <;> first | rfl | cases ht] at k
      exact ite_f rfl k
    | true =>
      obtain ⟨z, rfl, rfl⟩ := isStr_of hD ht
      refine ite_t rfl ⟨_, rfl, _, rfl, _, _, rfl, .inr hS, rfl, flat_strs ts, ?_⟩
      rw [← inS_of hD rfl ts] at k
      exact k

/-! ### is_test -/
/-- a good test -/
def sp_is_test (K : PySem.W.Frag) : Sp := fun vs H Q _ => ∃ (v : V) (t : Tst), vs = [v] ∧ Dp K H v t.d ∧ t.Ok ∧ ∀ H', Same H H' → Q (.bl true) H'
theorem inS_axes (ax : Bool) : inS ["x", "y"] (.str (axS ax)) = true := by cases ax <;> decide +kernel
theorem inS_vars (v : V3) : inS ["a", "b", "c"] (.str v.s) = true := by cases v <;> decide +kernel
theorem inV_ords (o : O3) : inV (V.str o.s) [V.str "less", V.str "equal", V.str "more"] = true := by cases o <;> decide +kernel
theorem li1_0 (a : V) : atI [a] 0 = some a := rfl
theorem li2_0 (a b : V) : atI [a, b] 0 = some a := rfl
theorem li2_1 (a b : V) : atI [a, b] 1 = some b := rfl
theorem li3_0 (a b c : V) : atI [a, b, c] 0 = some a := rfl
theorem li3_1 (a b c : V) : atI [a, b, c] 1 = some b := rfl
theorem li3_2 (a b c : V) : atI [a, b, c] 2 = some c := rfl

theorem sc_is_test : FnScope ["value", "word", "rest"] ["value"] (defScope s_is_test) := ⟨rfl, rfl, rfl, by decide +kernel, rfl, by decide +kernel, by decide +kernel⟩
theorem ok_is_test (E : En K mg) (G_is_within : Good P w K mg base CX0 2 "is_within" ["value", "most"] (sp_is_within K)) (G_is_one_of : Good P w K mg base CX0 1 "is_one_of" ["value", "texts"] (sp_is_one_of K)) (G_is_number : Good P w K mg base CX0 1 "is_number" ["value"] (sp_is_number K)) : Good P w K mg base CX0 3 "is_test" ["value"] (sp_is_test K) := by
  obtain ⟨fd, F⟩ := E.says.def_ 18 (d := d_is_test) rfl
  refine ⟨fd, ?_, F.bindsN fun _ _ _ _ _ _ us hl => match us, hl with | [_], _ => rfl, F.kp, E.gl "is_test"⟩
  refine F.ok sc_is_test (fun vs H Q E' h => ?_) (fun cdv A outer s H vs Q E' hr h => ?_)
  · obtain ⟨v, t, rfl, _⟩ := h; rfl
  · have hu64 := hu64_of hr
    refine ⟨_, PSs.nox (pss_cons (ps_if (PW.pt (pw_or (pt_not (pt_val (pe_callB call_isi (by rfl) (E.fr "isinstance") (by decide +kernel) (pa_cons (pv 0) (pa_cons (pe_bltn (v := .ty "tuple") (by rfl) (E.fr "tuple") (by decide +kernel) rfl) pa_nil))))) (pw_or (pt_cmpR op_eq (pe_callB call_len_seq (by rfl) (E.fr "len") (by decide +kernel) (pa_cons (pv 0) pa_nil)) pe_int (nomark _)) (pw_or1 (pt_not (pt_val (pe_callB call_isi (by rfl) (E.fr "isinstance") (by decide +kernel) (pa_cons (pe_ix ix_tup (pv 0) pe_int (fun _ _ => rfl)) (pa_cons (pe_bltn (v := .ty "str") (by rfl) (E.fr "str") (by decide +kernel) rfl) pa_nil)))))))))
        (pss_one (ps_ret pe_bl))
        pss_nil)
      (pss_cons (ps_asg (pv 0) (pg_star rfl (pgs_cons (pg_name (i := 1) sc_is_test.nd rfl (by first | exact Or.inl rfl | exact Or.inr rfl)) (pgs_cons (pg_name (i := 2) sc_is_test.nd rfl (by first | exact Or.inl rfl | exact Or.inr rfl)) pgs_nil))))
      (pss_cons (ps_if (pt_cmpR op_eq (pv 1) pe_str (nomark _))
        (pss_one (ps_ret (pe_and (pe_cmpR op_eq (pe_callB call_len_seq (by rfl) (E.fr "len") (by decide +kernel) (pa_cons (pv 2) pa_nil)) pe_int (nomark _)) (pe_one (pe_G G_is_one_of (hr.mono (by decide)) rfl pass0 (pa_cons (pe_ix ix_list (pv 2) pe_int (fun _ _ => rfl)) (pa_cons (pe_glob rfl (E.gl "AXES") (show RelV (V.ref (He.ga K "AXES")) _ from rfl)) pa_nil)))))))
        pss_nil)
      (pss_cons (ps_if (pt_cmpR op_eq (pv 1) pe_str (nomark _))
        (pss_cons (ps_if (PW.pt (pw_or (pt_cmpR op_ne (pe_callB call_len_seq (by rfl) (E.fr "len") (by decide +kernel) (pa_cons (pv 2) pa_nil)) pe_int (nomark _)) (pw_or (pt_not (pt_val (pe_G G_is_one_of (hr.mono (by decide)) rfl pass0 (pa_cons (pe_ix ix_list (pv 2) pe_int (fun _ _ => rfl)) (pa_cons (pe_glob rfl (E.gl "AXES") (show RelV (V.ref (He.ga K "AXES")) _ from rfl)) pa_nil))))) (pw_or1 (pt_not (pt_val (pe_G G_is_number (hr.mono (by decide)) rfl pass0 (pa_cons (pe_ix ix_list (pv 2) pe_int (fun _ _ => rfl)) pa_nil))))))))
        (pss_one (ps_ret pe_bl))
        pss_nil)
      (pss_one (ps_ret (pe_and (pe_cmpR op_in_seq (pe_ix ix_list (pv 2) pe_int (fun _ _ => rfl)) (pe_glob rfl (E.gl "MODULI") (show RelV (V.ref (He.ga K "MODULI")) _ from rfl)) (by rfl)) (pe_one (pe_G G_is_within (hr.mono (by decide)) rfl pass0 (pa_cons (pe_ix ix_list (pv 2) pe_int (fun _ _ => rfl)) (pa_cons (pe_op op_sub (pe_ix ix_list (pv 2) pe_int (fun _ _ => rfl)) pe_int) pa_nil))))))))
        pss_nil)
      (pss_cons (ps_if (pt_cmpR op_eq (pv 1) pe_str (nomark _))
        (pss_one (ps_ret (pe_and (pe_cmpR op_eq (pe_callB call_len_seq (by rfl) (E.fr "len") (by decide +kernel) (pa_cons (pv 2) pa_nil)) pe_int (nomark _)) (pe_and (pe_G G_is_one_of (hr.mono (by decide)) rfl pass0 (pa_cons (pe_ix ix_list (pv 2) pe_int (fun _ _ => rfl)) (pa_cons (pe_glob rfl (E.gl "VARIABLES") (show RelV (V.ref (He.ga K "VARIABLES")) _ from rfl)) pa_nil))) (pe_one (pe_G G_is_within (hr.mono (by decide)) rfl pass0 (pa_cons (pe_ix ix_list (pv 2) pe_int (fun _ _ => rfl)) (pa_cons (pe_globI rfl (En.int_MOST_VALUE E)) pa_nil))))))))
        pss_nil)
      (pss_one (ps_ret (pe_and (pe_cmpR op_in_seq (pv 1) (pe_glob rfl (E.gl "ORDERS") (show RelV (V.ref (He.ga K "ORDERS")) _ from rfl)) (by rfl)) (pe_one (pe_cmpR (op_eqD hu64) (pv 2) (pe_lst pa_nil) (nomark _))))))))))), ?_⟩
    obtain ⟨v, t, rfl, hD, ht, k⟩ := h
    obtain ⟨a, us, rfl, hS, hA⟩ := Dp.tst hD
    have z0 : 0 ≤ sizeLine := by decide
    refine ⟨_, rfl, _, _, _, _, true, rfl, .ty _, tyT hS, kit_ty (by decide +kernel), _, rfl, ?_⟩
    refine ite_f rfl ⟨_, rfl, a, _, rfl, .inr hS, rfl, _, rfl, ?_⟩
    refine ite_f (dne (by show ((us.length + 1 : Nat) : Int) ≠ 0; omega)) ?_
    refine ⟨_, rfl, a, _, _, _, rfl, rfl, hS, at_0 _ _, _, _, _, _, true, rfl, .ty _, .base (.str _), kit_ty (by decide +kernel), _, rfl, ite_f rfl ?_⟩
    -- word, *rest = value
    refine ⟨_, rfl, a, .str t.w, us, rfl, hS, fun l hl => ?_⟩
    refine ⟨_, _, rfl, _, _, rfl, rfl, ?_⟩
    have e1 := same_new (o := .lst us) hl
    have hA1 := Dp.sameAll e1 hA
    have hL : SqL K (upd H l (.lst us)) l us := SqL.of upd_same
    generalize upd H l (.lst us) = H1 at *
    have fin := k H1 e1
    cases t with
    | zero ax =>
      obtain ⟨u, rfl, h1⟩ := DpAll.one' hA1
      refine ⟨_, rfl, rfl, _, rfl, ite_t (Tst.w_is (.zero ax) 3) ?_⟩
      refine ⟨_, rfl, l, _, rfl, .inl hL, rfl, _, rfl, ite_t (deq rfl) ⟨_, rfl, l, _, _, _, rfl, rfl, hL, li1_0 _, ?_⟩⟩
      refine ⟨_, _, _, ["x", "y"], rfl, h1, at_AXES E _, ?_⟩
      rw [inS_axes]
      exact fin
    | rest ax m r =>
      obtain ⟨u1, u2, u3, rfl, h1, h2, h3⟩ := DpAll.three' hA1
      obtain rfl := Dp.intE h2
      obtain rfl := Dp.intE h3
      have hm : m = 2 ∨ m = 3 := ht.1
      have hr3 : r < m := ht.2
      refine ⟨_, rfl, rfl, _, rfl, ite_f (Tst.w_is (.rest ax m r) 3) ⟨_, rfl, rfl, _, rfl, ite_t (Tst.w_is (.rest ax m r) 5) ?_⟩⟩
      refine ⟨_, rfl, l, _, rfl, .inl hL, rfl, _, rfl, ite_f (by rw [deq (by rfl)]; rfl) ⟨_, rfl, l, _, _, _, rfl, rfl, hL, li3_0 _ _ _, _, _, _, ["x", "y"], rfl, h1, at_AXES E _, _, rfl, ?_⟩⟩
      rw [inS_axes]
      refine ite_f rfl ⟨_, rfl, l, _, _, _, rfl, rfl, hL, li3_1 _ _ _, ?_⟩
      refine ⟨_, "int", true, false, rfl, .base (.int _), by decide +kernel, by decide +kernel, true, rfl, ite_f rfl ?_⟩
      refine ⟨_, rfl, l, _, _, _, rfl, rfl, hL, li3_1 _ _ _, _, _, rfl, .inr (at_MODULI E _), rfl, rfl, _, rfl, ?_⟩
      refine ite_t ?_ ?_
      · rcases hm with rfl | rfl
        · show inV (V.int 2) [V.int 2, V.int 3] = true
          decide +kernel
        · show inV (V.int 3) [V.int 2, V.int 3] = true
          decide +kernel
      refine ⟨_, rfl, l, _, _, _, rfl, rfl, hL, li3_2 _ _ _, _, rfl, l, _, _, _, rfl, rfl, hL, li3_1 _ _ _, _, _, rfl, rfl, _, _, _, rfl, .int _, ?_⟩
      rw [show withinD ((m : Int) - 1) (.int (r : Int)) = true by
        show (decide ((0 : Int) ≤ (r : Int)) && decide ((r : Int) ≤ (m : Int) - 1)) = true
        rw [decide_eq_true (by omega), decide_eq_true (by omega)]
        rfl]
      exact fin
    | holds v n =>
      obtain ⟨u1, u2, rfl, h1, h2⟩ := DpAll.two' hA1
      obtain rfl := Dp.intE h2
      have hn : n ≤ 3 := ht
      refine ⟨_, rfl, rfl, _, rfl, ite_f (Tst.w_is (.holds v n) 3) ⟨_, rfl, rfl, _, rfl, ite_f (Tst.w_is (.holds v n) 5) ⟨_, rfl, rfl, _, rfl, ite_t (Tst.w_is (.holds v n) 4) ?_⟩⟩⟩
      refine ⟨_, rfl, l, _, rfl, .inl hL, rfl, _, rfl, ite_t (deq rfl) ⟨_, rfl, l, _, _, _, rfl, rfl, hL, li2_0 _ _, ?_⟩⟩
      refine ⟨_, _, _, ["a", "b", "c"], rfl, h1, at_VARIABLES E _, _, rfl, ?_⟩
      rw [inS_vars]
      refine ite_t rfl ⟨_, rfl, l, _, _, _, rfl, rfl, hL, li2_1 _ _, _, _, _, rfl, .int _, ?_⟩
      rw [show withinD 3 (.int (n : Int)) = true by
        show (decide ((0 : Int) ≤ (n : Int)) && decide ((n : Int) ≤ 3)) = true
        rw [decide_eq_true (by omega), decide_eq_true (by omega)]
        rfl]
      exact fin
    | ord o =>
      cases hA1
      refine ⟨_, rfl, rfl, _, rfl, ite_f (by cases o <;> exact Tst.w_is _ 3) ⟨_, rfl, rfl, _, rfl, ite_f (by cases o <;> exact Tst.w_is _ 5) ⟨_, rfl, rfl, _, rfl, ite_f (by cases o <;> exact Tst.w_is _ 4) ?_⟩⟩⟩
      refine ⟨_, rfl, _, _, rfl, .inr (at_ORDERS E _), rfl, rfl, _, rfl, ?_⟩
      refine ite_t (by show inV (V.str o.s) [V.str "less", V.str "equal", V.str "more"] = true; exact inV_ords o) ?_
      refine ⟨_, rfl, z0, fun l2 hl2 => ?_⟩
      have e2 := same_new (o := .lst []) hl2
      refine ⟨.list [], .list [], .lst (Same.seq e2 hL) .nil, .lst (SqL.of upd_same) .nil, by rfl, by rfl, ?_⟩
      exact k _ (e1.trans e2)

/-! ### is_line -/
/-- a good line -/
def sp_is_line (K : PySem.W.Frag) : Sp := fun vs H Q _ => ∃ (v : V) (l : Lin) (n : Nat), vs = [v, .int (n : Int)] ∧ Dp K H v l.d ∧ l.Ok n ∧ ∀ H', Same H H' → Q (.bl true) H'
theorem within_nat {i n : Nat} (h : i ≤ n) : withinD (n : Int) (.int (i : Int)) = true := by
  show (decide ((0 : Int) ≤ (i : Int)) && decide ((i : Int) ≤ (n : Int))) = true
  rw [decide_eq_true (by omega), decide_eq_true (by omega)]
  rfl

theorem sc_is_line : FnScope ["value", "many", "word", "rest"] ["value", "many"] (defScope s_is_line) := ⟨rfl, rfl, rfl, by decide +kernel, rfl, by decide +kernel, by decide +kernel⟩
theorem ok_is_line (E : En K mg) (G_is_name : Good P w K mg base CX0 1 "is_name" ["value"] (sp_is_name K)) (G_is_within : Good P w K mg base CX0 2 "is_within" ["value", "most"] (sp_is_within K)) (G_is_test : Good P w K mg base CX0 3 "is_test" ["value"] (sp_is_test K)) (G_is_one_of : Good P w K mg base CX0 1 "is_one_of" ["value", "texts"] (sp_is_one_of K)) : Good P w K mg base CX0 4 "is_line" ["value", "many"] (sp_is_line K) := by
  obtain ⟨fd, F⟩ := E.says.def_ 19 (d := d_is_line) rfl
  refine ⟨fd, ?_, F.bindsN fun _ _ _ _ _ _ us hl => match us, hl with | [_, _], _ => rfl, F.kp, E.gl "is_line"⟩
  refine F.ok sc_is_line (fun vs H Q E' h => ?_) (fun cdv A outer s H vs Q E' hr h => ?_)
  · obtain ⟨v, l, n, rfl, _⟩ := h; rfl
  · have hu64 := hu64_of hr
    refine ⟨_, PSs.nox (pss_cons (ps_if (PW.pt (pw_or (pt_not (pt_val (pe_callB call_isi (by rfl) (E.fr "isinstance") (by decide +kernel) (pa_cons (pv 0) (pa_cons (pe_bltn (v := .ty "tuple") (by rfl) (E.fr "tuple") (by decide +kernel) rfl) pa_nil))))) (pw_or (pt_cmpR op_eq (pe_callB call_len_seq (by rfl) (E.fr "len") (by decide +kernel) (pa_cons (pv 0) pa_nil)) pe_int (nomark _)) (pw_or1 (pt_not (pt_val (pe_callB call_isi (by rfl) (E.fr "isinstance") (by decide +kernel) (pa_cons (pe_ix ix_tup (pv 0) pe_int (fun _ _ => rfl)) (pa_cons (pe_bltn (v := .ty "str") (by rfl) (E.fr "str") (by decide +kernel) rfl) pa_nil)))))))))
        (pss_one (ps_ret pe_bl))
        pss_nil)
      (pss_cons (ps_asg (pv 0) (pg_star rfl (pgs_cons (pg_name (i := 2) sc_is_line.nd rfl (by first | exact Or.inl rfl | exact Or.inr rfl)) (pgs_cons (pg_name (i := 3) sc_is_line.nd rfl (by first | exact Or.inl rfl | exact Or.inr rfl)) pgs_nil))))
      (pss_cons (ps_if (pt_cmpR op_in_seq (pv 2) (pe_tup (pa_cons pe_str (pa_cons pe_str pa_nil))) (by rfl))
        (pss_one (ps_ret (pe_and (pe_cmpR op_eq (pe_callB call_len_seq (by rfl) (E.fr "len") (by decide +kernel) (pa_cons (pv 3) pa_nil)) pe_int (nomark _)) (pe_one (pe_G G_is_one_of (hr.mono (by decide)) rfl pass0 (pa_cons (pe_ix ix_list (pv 3) pe_int (fun _ _ => rfl)) (pa_cons (pe_glob rfl (E.gl "AXES") (show RelV (V.ref (He.ga K "AXES")) _ from rfl)) pa_nil)))))))
        pss_nil)
      (pss_cons (ps_if (pt_cmpR op_eq (pv 2) pe_str (nomark _))
        (pss_one (ps_ret (pe_and (pe_cmpR op_eq (pe_callB call_len_seq (by rfl) (E.fr "len") (by decide +kernel) (pa_cons (pv 3) pa_nil)) pe_int (nomark _)) (pe_and (pe_G G_is_one_of (hr.mono (by decide)) rfl pass0 (pa_cons (pe_ix ix_list (pv 3) pe_int (fun _ _ => rfl)) (pa_cons (pe_glob rfl (E.gl "VARIABLES") (show RelV (V.ref (He.ga K "VARIABLES")) _ from rfl)) pa_nil))) (pe_one (pe_G G_is_within (hr.mono (by decide)) rfl pass0 (pa_cons (pe_ix ix_list (pv 3) pe_int (fun _ _ => rfl)) (pa_cons (pe_globI rfl (En.int_MOST_VALUE E)) pa_nil))))))))
        pss_nil)
      (pss_cons (ps_if (pt_cmpR op_eq (pv 2) pe_str (nomark _))
        (pss_one (ps_ret (pe_and (pe_cmpR op_eq (pe_callB call_len_seq (by rfl) (E.fr "len") (by decide +kernel) (pa_cons (pv 3) pa_nil)) pe_int (nomark _)) (pe_and (pe_G G_is_test (hr.mono (by decide)) rfl pass0 (pa_cons (pe_ix ix_list (pv 3) pe_int (fun _ _ => rfl)) pa_nil)) (pe_one (pe_G G_is_within (hr.mono (by decide)) rfl pass0 (pa_cons (pe_ix ix_list (pv 3) pe_int (fun _ _ => rfl)) (pa_cons (pv 1) pa_nil))))))))
        pss_nil)
      (pss_cons (ps_if (pt_cmpR op_in_seq (pv 2) (pe_tup (pa_cons pe_str (pa_cons pe_str pa_nil))) (by rfl))
        (pss_one (ps_ret (pe_and (pe_cmpR op_eq (pe_callB call_len_seq (by rfl) (E.fr "len") (by decide +kernel) (pa_cons (pv 3) pa_nil)) pe_int (nomark _)) (pe_one (pe_G G_is_within (hr.mono (by decide)) rfl pass0 (pa_cons (pe_ix ix_list (pv 3) pe_int (fun _ _ => rfl)) (pa_cons (pv 1) pa_nil)))))))
        pss_nil)
      (pss_one (ps_ret (pe_and (pe_cmpR op_eq (pv 2) pe_str (nomark _)) (pe_and (pe_cmpR op_eq (pe_callB call_len_seq (by rfl) (E.fr "len") (by decide +kernel) (pa_cons (pv 3) pa_nil)) pe_int (nomark _)) (pe_and (pe_G G_is_name (hr.mono (by decide)) rfl pass0 (pa_cons (pe_ix ix_list (pv 3) pe_int (fun _ _ => rfl)) pa_nil)) (pe_one (pe_cmpR op_ne (pe_ix ix_list (pv 3) pe_int (fun _ _ => rfl)) pe_str (nomark _)))))))))))))), ?_⟩
    obtain ⟨v, ln, n, rfl, hD, ht, k⟩ := h
    obtain ⟨a, us, rfl, hS, hA⟩ := Dp.lin hD
    have z2 : 2 ≤ sizeLine := by decide
    refine ⟨_, rfl, _, _, _, _, true, rfl, .ty _, tyT hS, kit_ty (by decide +kernel), _, rfl, ?_⟩
    refine ite_f rfl ⟨_, rfl, a, _, rfl, .inr hS, rfl, _, rfl, ?_⟩
    refine ite_f (dne (by show ((us.length + 1 : Nat) : Int) ≠ 0; omega)) ?_
    refine ⟨_, rfl, a, _, _, _, rfl, rfl, hS, at_0 _ _, _, _, _, _, true, rfl, .ty _, .base (.str _), kit_ty (by decide +kernel), _, rfl, ite_f rfl ?_⟩
    -- word, *rest = value
    refine ⟨_, rfl, a, .str ln.w, us, rfl, hS, fun l hl => ?_⟩
    refine ⟨_, _, rfl, _, _, rfl, rfl, ?_⟩
    have e1 := same_new (o := .lst us) hl
    have hA1 := Dp.sameAll e1 hA
    have hL : SqL K (upd H l (.lst us)) l us := SqL.of upd_same
    generalize upd H l (.lst us) = H1 at *
    -- if word in ("add", "take")
    refine ⟨_, rfl, z2, fun p1 hp1 => ⟨p1, _, rfl, .inr (SqT.of upd_same), rfl, rfl, _, rfl, ?_⟩⟩
    have f1 := same_new (o := .tup [V.str "add", .str "take"]) hp1
    rw [show inV (V.str ln.w) [V.str "add", V.str "take"] = decide (ln.wi = 0 ∨ ln.wi = 1) from ln.w_in2 0 1]
    have hA2 := Dp.sameAll f1 hA1
    have hL2 := Same.seq f1 hL
    have e2 := e1.trans f1
    generalize upd H1 p1 (.tup [V.str "add", .str "take"]) = H2 at *
    have ax : ∀ (ax : Bool), us.length = 1 → DpAll K H2 us [.str (axS ax)] → ∃ u, us = [u] ∧ Dp K H2 u (.str (axS ax)) := fun ax _ h => DpAll.one' h
    cases ln with
    | add w =>
      obtain ⟨u, rfl, h1⟩ := DpAll.one' hA2
      refine ite_t (by rfl) ⟨_, rfl, l, _, rfl, .inl hL2, rfl, _, rfl, ite_t (deq rfl) ⟨_, rfl, l, _, _, _, rfl, rfl, hL2, li1_0 _, ?_⟩⟩
      refine ⟨_, _, _, ["x", "y"], rfl, h1, at_AXES E _, ?_⟩
      rw [inS_axes]
      exact k _ e2
    | take w =>
      obtain ⟨u, rfl, h1⟩ := DpAll.one' hA2
      refine ite_t (by rfl) ⟨_, rfl, l, _, rfl, .inl hL2, rfl, _, rfl, ite_t (deq rfl) ⟨_, rfl, l, _, _, _, rfl, rfl, hL2, li1_0 _, ?_⟩⟩
      refine ⟨_, _, _, ["x", "y"], rfl, h1, at_AXES E _, ?_⟩
      rw [inS_axes]
      exact k _ e2
    | set v m =>
      obtain ⟨u1, u2, rfl, h1, h2⟩ := DpAll.two' hA2
      obtain rfl := Dp.intE h2
      have hm : m ≤ 3 := ht
      refine ite_f (by rfl) ⟨_, rfl, rfl, _, rfl, ite_t (Lin.w_is (.set v m) 2) ?_⟩
      refine ⟨_, rfl, l, _, rfl, .inl hL2, rfl, _, rfl, ite_t (deq rfl) ⟨_, rfl, l, _, _, _, rfl, rfl, hL2, li2_0 _ _, ?_⟩⟩
      refine ⟨_, _, _, ["a", "b", "c"], rfl, h1, at_VARIABLES E _, _, rfl, ?_⟩
      rw [inS_vars]
      refine ite_t rfl ⟨_, rfl, l, _, _, _, rfl, rfl, hL2, li2_1 _ _, _, _, (3 : Int), rfl, .int _, ?_⟩
      rw [show withinD (3 : Int) (.int (m : Int)) = true from within_nat hm]
      exact k _ e2
    | test t tg =>
      obtain ⟨u1, u2, rfl, h1, h2⟩ := DpAll.two' hA2
      obtain rfl := Dp.intE h2
      refine ite_f (by rfl) ⟨_, rfl, rfl, _, rfl, ite_f (Lin.w_is (.test t tg) 2) ⟨_, rfl, rfl, _, rfl, ite_t (Lin.w_is (.test t tg) 3) ?_⟩⟩
      refine ⟨_, rfl, l, _, rfl, .inl hL2, rfl, _, rfl, ite_t (deq rfl) ⟨_, rfl, l, _, _, _, rfl, rfl, hL2, li2_0 _ _, ?_⟩⟩
      refine ⟨_, t, rfl, h1, ht.1, fun H3 e3 => ⟨_, rfl, ?_⟩⟩
      refine ite_t rfl ⟨_, rfl, l, _, _, _, rfl, rfl, Same.seq e3 hL2, li2_1 _ _, _, rfl, _, _, (n : Int), rfl, .int _, ?_⟩
      rw [within_nat ht.2]
      exact k _ (e2.trans e3)
    | choose tg =>
      obtain ⟨u1, rfl, h1⟩ := DpAll.one' hA2
      obtain rfl := Dp.intE h1
      refine ite_f (by rfl) ⟨_, rfl, rfl, _, rfl, ite_f (Lin.w_is (.choose tg) 2) ⟨_, rfl, rfl, _, rfl, ite_f (Lin.w_is (.choose tg) 3) ?_⟩⟩
      refine ⟨_, rfl, z2, fun p2 hp2 => ⟨p2, _, rfl, .inr (SqT.of upd_same), rfl, rfl, _, rfl, ?_⟩⟩
      have f2 := same_new (o := .tup [V.str "choose", .str "go"]) hp2
      refine ite_t (Lin.w_in2 (.choose tg) 4 5) ?_
      refine ⟨_, rfl, l, _, rfl, .inl (Same.seq f2 hL2), rfl, _, rfl, ite_t (deq rfl) ⟨_, rfl, l, _, _, _, rfl, rfl, Same.seq f2 hL2, li1_0 _, _, rfl, _, _, (n : Int), rfl, .int _, ?_⟩⟩
      rw [within_nat ht]
      exact k _ (e2.trans f2)
    | go tg =>
      obtain ⟨u1, rfl, h1⟩ := DpAll.one' hA2
      obtain rfl := Dp.intE h1
      refine ite_f (by rfl) ⟨_, rfl, rfl, _, rfl, ite_f (Lin.w_is (.go tg) 2) ⟨_, rfl, rfl, _, rfl, ite_f (Lin.w_is (.go tg) 3) ?_⟩⟩
      refine ⟨_, rfl, z2, fun p2 hp2 => ⟨p2, _, rfl, .inr (SqT.of upd_same), rfl, rfl, _, rfl, ?_⟩⟩
      have f2 := same_new (o := .tup [V.str "choose", .str "go"]) hp2
      refine ite_t (Lin.w_in2 (.go tg) 4 5) ?_
      refine ⟨_, rfl, l, _, rfl, .inl (Same.seq f2 hL2), rfl, _, rfl, ite_t (deq rfl) ⟨_, rfl, l, _, _, _, rfl, rfl, Same.seq f2 hL2, li1_0 _, _, rfl, _, _, (n : Int), rfl, .int _, ?_⟩⟩
      rw [within_nat ht]
      exact k _ (e2.trans f2)
    | stop z =>
      obtain ⟨u1, rfl, h1⟩ := DpAll.one' hA2
      obtain rfl := Dp.strE h1
      refine ite_f (by rfl) ⟨_, rfl, rfl, _, rfl, ite_f (Lin.w_is (.stop z) 2) ⟨_, rfl, rfl, _, rfl, ite_f (Lin.w_is (.stop z) 3) ?_⟩⟩
      refine ⟨_, rfl, z2, fun p2 hp2 => ⟨p2, _, rfl, .inr (SqT.of upd_same), rfl, rfl, _, rfl, ?_⟩⟩
      have f2 := same_new (o := .tup [V.str "choose", .str "go"]) hp2
      have hL3 := Same.seq f2 hL2
      refine ite_f (Lin.w_in2 (.stop z) 4 5) ?_
      refine ⟨_, rfl, rfl, _, rfl, ite_t (Lin.w_is (.stop z) 6) ⟨_, rfl, l, _, rfl, .inl hL3, rfl, _, rfl, ite_t (deq rfl) ⟨_, rfl, l, _, _, _, rfl, rfl, hL3, li1_0 _, z, rfl, ht.1, fun H3 e3 => ⟨_, rfl, ?_⟩⟩⟩⟩
      refine ite_t rfl ⟨_, rfl, l, _, _, _, rfl, rfl, Same.seq e3 hL3, li1_0 _, rfl, ?_⟩
      have ne : decide (V.str z = V.str "end") = false := decide_eq_false fun q => ht.2 (V.str.inj q)
      rw [ne]
      exact k _ (e2.trans (f2.trans e3))

/-! ### Program.__init__ -/
def sp0_Program (K : PySem.W.Frag) : Sp := fun vs H Q _ => ∃ (a dx p : Addr) (us : List V) (ls : List Lin), vs = [.ref a, .ref p] ∧ H a = some (.ins (He.ga K "Program") dx []) ∧ SqT K H p us ∧ DpAll K H us (ls.map Lin.d) ∧ (∀ x ∈ ls, x.Ok ls.length) ∧ 0 < ls.length ∧ ls.length ≤ 60 ∧
  ∀ H', Same H H' → Q .non (upd H' a (.ins (He.ga K "Program") dx [("rows", .ref p)]))
/-- a program of good lines -/
def sp_Program___init__ (K : PySem.W.Frag) : Sp := fun vs H Q E => ∃ ws rest, vs = ws ++ rest ∧ ws.length = ["self"].length ∧ rest.length ≤ sizeLine ∧ ∀ p, H p = none → sp0_Program K (ws ++ [V.ref p]) (upd H p (.tup rest)) Q E
theorem prog_makeX {K : PySem.W.Frag} {H : Hp} {us : List V} {ls : List Lin} {Q : Hp → Prop} {E : XK} {x dx : Addr} (hA : DpAll K H us (ls.map Lin.d)) (hok : ∀ x ∈ ls, x.Ok ls.length) (h0 : 0 < ls.length) (h1 : ls.length ≤ 60) (hx : H x = none) (hdx : H dx = none) (hn : dx ≠ x) (k : ∀ H', Same H H' → ProgAt K H' x us ls → Q H') :
    sp_Program___init__ K (.ref x :: us) (upd (upd H dx (.own x)) x (.ins (He.ga K "Program") dx [])) (fun v H2 => v = .non ∧ Q H2) E := by
  have e1 : Same H (upd (upd H dx (.own x)) x (.ins (He.ga K "Program") dx [])) := (same_new hdx).trans (same_new (by rw [upd_ne hn.symm]; exact hx))
  have hul : us.length = ls.length := by
    have := DpAll.length hA
    rw [List.length_map] at this
    exact this
  refine ⟨[.ref x], us, rfl, rfl, Bx.sz (by omega), fun p hp => ⟨x, dx, p, us, ls, rfl, ?_, SqT.of upd_same, Dp.sameAll (e1.trans (same_new hp)) hA, hok, h0, h1, fun H' e => ⟨rfl, ?_⟩⟩⟩
  · rw [upd_ne (ne_of_none upd_same hp), upd_same]
  · have hp' : H' p = some (.tup us) := e _ _ upd_same
    have hx' : H' x = some (.ins (He.ga K "Program") dx []) := e _ _ (same_new hp _ _ upd_same)
    have hdx' : H' dx = some (.own x) := e _ _ (same_new hp _ _ (by rw [upd_ne hn, upd_same]))
    have e2 := e1.trans ((same_new (o := .tup us) hp).trans e)
    have e3 : Same H (upd H' x (.ins (He.ga K "Program") dx [("rows", .ref p)])) := same_mut e2 hx
    have npx : p ≠ x := fun z => by rw [z, hx'] at hp'; cases hp'
    exact k _ e3 ⟨⟨dx, p, upd_same, by rw [upd_ne hn]; exact hdx', SqT.of (by rw [upd_ne npx]; exact hp')⟩, Dp.sameAll e3 hA, hok, h0, h1⟩
theorem prog_make {K : PySem.W.Frag} {H : Hp} {us : List V} {ls : List Lin} {Q : VK} {E : XK} (hA : DpAll K H us (ls.map Lin.d)) (hok : ∀ x ∈ ls, x.Ok ls.length) (h0 : 0 < ls.length) (h1 : ls.length ≤ 60) (k : ∀ p H', Same H H' → ProgAt K H' p us ls → Q (.ref p) H') :
    ∀ x dx, H x = none → H dx = none → dx ≠ x → sp_Program___init__ K (.ref x :: us) (upd (upd H dx (.own x)) x (.ins (He.ga K "Program") dx [])) (fun v H2 => v = .non ∧ Q (.ref x) H2) E :=
  fun x _ hx hdx hn => prog_makeX hA hok h0 h1 hx hdx hn (k x)

theorem sc_Program___init__ : FnScope ["self", "lines", "index", "line"] ["self", "lines"] (defScope s_Program___init__) := ⟨rfl, rfl, rfl, by decide +kernel, rfl, by decide +kernel, by decide +kernel⟩
theorem ok_Program___init__ (E : En K mg) (G_is_line : Good P w K mg base CX0 4 "is_line" ["value", "many"] (sp_is_line K)) : FnR P w K mg base CX0 5 (He.ma K (He.ga K "Program") "__init__") (sp_Program___init__ K) := by
  obtain ⟨fd, F⟩ := E.says.def_ 20 (d := d_Program___init__) rfl
  obtain ⟨oc, od, dV, kV, doc, pm, an, cdv, ct, osl, rfl, lk, hcd, hD, hK⟩ := F.ex
  obtain rfl : dV = .none := by
    rcases hD with ⟨_, h⟩ | ⟨h, _⟩
    · exact h
    · exact absurd rfl h
  refine StX.fn_star (ps := ["self"]) (pv := "lines") lk hcd sc_Program___init__ StX.cxUp_none (StX.bind_star1 (B := fun vs => bindArgs _ { pos := vs }) (fun a => rfl) (fun a r rs => rfl)) (fun A outer s H vs Q E' hr h => ?_)
  · have hu64 := hu64_of hr
    refine ⟨_, PSs.nox (pss_cons (ps_for PassesOwn.never rfl (pi_enumT (by rfl) (E.fr "enumerate") (pa_cons (pv 1) pa_nil)) (pg_tup rfl (pgs_cons (pg_name (i := 2) sc_Program___init__.nd rfl (by first | exact Or.inl rfl | exact Or.inr rfl)) (pgs_cons (pg_name (i := 3) sc_Program___init__.nd rfl (by first | exact Or.inl rfl | exact Or.inr rfl)) pgs_nil)))
        (pss_one (ps_if (pt_not (pt_val (pe_G G_is_line (hr.mono (by decide)) rfl pass0 (pa_cons (pv 3) (pa_cons (pe_callB call_len_seq (by rfl) (E.fr "len") (by decide +kernel) (pa_cons (pv 1) pa_nil)) pa_nil)))))
        (pss_one ps_never)
        pss_nil)))
      (pss_cons (ps_if (pt_not (pt_chain op_le op_le pe_int (pe_callB call_len_seq (by rfl) (E.fr "len") (by decide +kernel) (pa_cons (pv 1) pa_nil)) (ClX.pe_cval (pe_glob rfl (E.gl "Program") (show RelV (V.ref (He.ga K "Program")) _ from rfl)))))
        (pss_one ps_never)
        pss_nil)
      (pss_one (ps_fld (pv 0) (pe_callTy call_tuple_of (by rfl) (E.fr "tuple") (by decide +kernel) (pa_cons (pv 1) pa_nil)) rfl)))), ?_⟩
    obtain ⟨a, dx, p, us, ls, rfl, hX, hP, hA, hok, h0, h1, k⟩ := h
    have hul : us.length = ls.length := by
      have := DpAll.length hA
      rw [List.length_map] at this
      exact this
    refine ⟨_, rfl, p, us, rfl, hP, ?_⟩
    refine for_it (n := us.length) (walk_enumT (K := K) (a := p) (xs := us)) (fun i σ H' => ∃ s2 s3 : Option V, σ = [some (.ref a), some (.ref p), s2, s3] ∧ Same H H') ⟨_, _, rfl, Same.refl _⟩ (fun i σ H' _ ⟨_, _, _, e⟩ => seqT e hP) ?_ ?_
    · rintro i x σ H1 H2 hi ⟨s2, s3, rfl, e1⟩ ⟨T, y, z, rfl, hT, rfl, hy, hz⟩
      cases hy
      obtain ⟨l, hl, hv⟩ := lin_at hA hz
      have e2 := same_new (o := .tup [V.int (i : Nat), z]) hT
      have e12 := e1.trans e2
      refine ⟨T, _, rfl, SqT.of upd_same, rfl, _, _, rfl, _, _, rfl, rfl, ?_⟩
      refine ⟨_, rfl, _, rfl, p, us, rfl, .inr (seqT e12 hP), z, l, us.length, rfl, Dp.same e12 hv, by rw [hul]; exact hok l (List.mem_of_getElem? hl), fun H3 e3 => ⟨_, rfl, ite_f rfl ?_⟩⟩
      exact ⟨_, _, rfl, e12.trans e3⟩
    rintro σ H1 ⟨s2, s3, rfl, e1⟩
    obtain ⟨t60, c60⟩ := En.cint_Program_MAX_LINES E
    refine ⟨_, rfl, p, us, rfl, .inr (seqT e1 hP), _, _, rfl, rfl, _, rfl, ite_t (decide_eq_true (by omega)) ⟨_, _, _, _, rfl, En.cread_Program E, c60, _, _, rfl, rfl, _, rfl, ?_⟩⟩
    refine ite_f (by rw [decide_eq_true (by omega : (us.length : Int) ≤ 60)]; rfl) ?_
    refine ⟨_, rfl, p, us, rfl, .inr ⟨seqT e1 hP, ?_⟩⟩
    exact ⟨_, rfl, a, _, dx, [], rfl, e1 _ _ hX, En.cls_Program E, En.noat_Program_rows E, (by show 0 < 1000; decide), k H1 e1⟩

/-! ### _law_program -/
/-- the program of a list of lines -/
def sp__law_program (K : PySem.W.Frag) : Sp := fun vs H Q _ => ∃ (l : Addr) (us : List V) (ls : List Lin), vs = [.ref l] ∧ H l = some (.lst us) ∧ DpAll K H us (ls.map Lin.d) ∧ (∀ x ∈ ls, x.Ok ls.length) ∧ 0 < ls.length ∧ ls.length ≤ 8 ∧ ∀ p H', Same H H' → ProgAt K H' p us ls → Q (.ref p) H'

theorem sc__law_program : FnScope ["lines", "a"] ["lines"] (defScope s__law_program) := ⟨rfl, rfl, rfl, by decide +kernel, rfl, by decide +kernel, by decide +kernel⟩
theorem ok__law_program (E : En K mg) (G_Program___init__ : FnR P w K mg base CX0 5 (He.ma K (He.ga K "Program") "__init__") (sp_Program___init__ K)) : Good P w K mg base CX0 7 "_law_program" ["lines"] (sp__law_program K) := by
  obtain ⟨fd, F⟩ := E.says.def_ 21 (d := d__law_program) rfl
  refine ⟨fd, ?_, F.bindsN fun _ _ _ _ _ _ us hl => match us, hl with | [_], _ => rfl, F.kp, E.gl "_law_program"⟩
  refine F.ok sc__law_program (fun vs H Q E' h => ?_) (fun cdv A outer s H vs Q E' hr h => ?_)
  · obtain ⟨l, us, ls, rfl, _⟩ := h; rfl
  · have hu64 := hu64_of hr
    refine ⟨_, PSs.nox (pss_cons (ps_set (i := 1) sc__law_program.nd rfl (by first | exact Or.inl rfl | exact Or.inr rfl) (pe_op op_cat (pe_callTy call_list_of (by rfl) (E.fr "list") (by decide +kernel) (pa_cons (pv 0) pa_nil)) (pe_op op_rep (pe_lst (pa_cons pe_non pa_nil)) pe_int)))
      (pss_cons (ps_if (pt_cmpR op_eq (pe_callB call_len_seq (by rfl) (E.fr "len") (by decide +kernel) (pa_cons (pv 0) pa_nil)) pe_int (nomark _))
        (pss_one (ps_ret (StX.pe_makeR (En.mkr_Program E) G_Program___init__ (hr.mono (by decide)) rfl (E.gl "Program") pass0 (pa_cons (pe_ix ix_list (pv 1) pe_int (fun _ _ => rfl)) pa_nil))))
        pss_nil)
      (pss_cons (ps_if (pt_cmpR op_eq (pe_callB call_len_seq (by rfl) (E.fr "len") (by decide +kernel) (pa_cons (pv 0) pa_nil)) pe_int (nomark _))
        (pss_one (ps_ret (StX.pe_makeR (En.mkr_Program E) G_Program___init__ (hr.mono (by decide)) rfl (E.gl "Program") pass0 (pa_cons (pe_ix ix_list (pv 1) pe_int (fun _ _ => rfl)) (pa_cons (pe_ix ix_list (pv 1) pe_int (fun _ _ => rfl)) pa_nil)))))
        pss_nil)
      (pss_cons (ps_if (pt_cmpR op_eq (pe_callB call_len_seq (by rfl) (E.fr "len") (by decide +kernel) (pa_cons (pv 0) pa_nil)) pe_int (nomark _))
        (pss_one (ps_ret (StX.pe_makeR (En.mkr_Program E) G_Program___init__ (hr.mono (by decide)) rfl (E.gl "Program") pass0 (pa_cons (pe_ix ix_list (pv 1) pe_int (fun _ _ => rfl)) (pa_cons (pe_ix ix_list (pv 1) pe_int (fun _ _ => rfl)) (pa_cons (pe_ix ix_list (pv 1) pe_int (fun _ _ => rfl)) pa_nil))))))
        pss_nil)
      (pss_cons (ps_if (pt_cmpR op_eq (pe_callB call_len_seq (by rfl) (E.fr "len") (by decide +kernel) (pa_cons (pv 0) pa_nil)) pe_int (nomark _))
        (pss_one (ps_ret (StX.pe_makeR (En.mkr_Program E) G_Program___init__ (hr.mono (by decide)) rfl (E.gl "Program") pass0 (pa_cons (pe_ix ix_list (pv 1) pe_int (fun _ _ => rfl)) (pa_cons (pe_ix ix_list (pv 1) pe_int (fun _ _ => rfl)) (pa_cons (pe_ix ix_list (pv 1) pe_int (fun _ _ => rfl)) (pa_cons (pe_ix ix_list (pv 1) pe_int (fun _ _ => rfl)) pa_nil)))))))
        pss_nil)
      (pss_cons (ps_if (pt_cmpR op_eq (pe_callB call_len_seq (by rfl) (E.fr "len") (by decide +kernel) (pa_cons (pv 0) pa_nil)) pe_int (nomark _))
        (pss_one (ps_ret (StX.pe_makeR (En.mkr_Program E) G_Program___init__ (hr.mono (by decide)) rfl (E.gl "Program") pass0 (pa_cons (pe_ix ix_list (pv 1) pe_int (fun _ _ => rfl)) (pa_cons (pe_ix ix_list (pv 1) pe_int (fun _ _ => rfl)) (pa_cons (pe_ix ix_list (pv 1) pe_int (fun _ _ => rfl)) (pa_cons (pe_ix ix_list (pv 1) pe_int (fun _ _ => rfl)) (pa_cons (pe_ix ix_list (pv 1) pe_int (fun _ _ => rfl)) pa_nil))))))))
        pss_nil)
      (pss_cons (ps_if (pt_cmpR op_eq (pe_callB call_len_seq (by rfl) (E.fr "len") (by decide +kernel) (pa_cons (pv 0) pa_nil)) pe_int (nomark _))
        (pss_one (ps_ret (StX.pe_makeR (En.mkr_Program E) G_Program___init__ (hr.mono (by decide)) rfl (E.gl "Program") pass0 (pa_cons (pe_ix ix_list (pv 1) pe_int (fun _ _ => rfl)) (pa_cons (pe_ix ix_list (pv 1) pe_int (fun _ _ => rfl)) (pa_cons (pe_ix ix_list (pv 1) pe_int (fun _ _ => rfl)) (pa_cons (pe_ix ix_list (pv 1) pe_int (fun _ _ => rfl)) (pa_cons (pe_ix ix_list (pv 1) pe_int (fun _ _ => rfl)) (pa_cons (pe_ix ix_list (pv 1) pe_int (fun _ _ => rfl)) pa_nil)))))))))
        pss_nil)
      (pss_cons (ps_if (pt_cmpR op_eq (pe_callB call_len_seq (by rfl) (E.fr "len") (by decide +kernel) (pa_cons (pv 0) pa_nil)) pe_int (nomark _))
        (pss_one (ps_ret (StX.pe_makeR (En.mkr_Program E) G_Program___init__ (hr.mono (by decide)) rfl (E.gl "Program") pass0 (pa_cons (pe_ix ix_list (pv 1) pe_int (fun _ _ => rfl)) (pa_cons (pe_ix ix_list (pv 1) pe_int (fun _ _ => rfl)) (pa_cons (pe_ix ix_list (pv 1) pe_int (fun _ _ => rfl)) (pa_cons (pe_ix ix_list (pv 1) pe_int (fun _ _ => rfl)) (pa_cons (pe_ix ix_list (pv 1) pe_int (fun _ _ => rfl)) (pa_cons (pe_ix ix_list (pv 1) pe_int (fun _ _ => rfl)) (pa_cons (pe_ix ix_list (pv 1) pe_int (fun _ _ => rfl)) pa_nil))))))))))
        pss_nil)
      (pss_one (ps_ret (StX.pe_makeR (En.mkr_Program E) G_Program___init__ (hr.mono (by decide)) rfl (E.gl "Program") pass0 (pa_cons (pe_ix ix_list (pv 1) pe_int (fun _ _ => rfl)) (pa_cons (pe_ix ix_list (pv 1) pe_int (fun _ _ => rfl)) (pa_cons (pe_ix ix_list (pv 1) pe_int (fun _ _ => rfl)) (pa_cons (pe_ix ix_list (pv 1) pe_int (fun _ _ => rfl)) (pa_cons (pe_ix ix_list (pv 1) pe_int (fun _ _ => rfl)) (pa_cons (pe_ix ix_list (pv 1) pe_int (fun _ _ => rfl)) (pa_cons (pe_ix ix_list (pv 1) pe_int (fun _ _ => rfl)) (pa_cons (pe_ix ix_list (pv 1) pe_int (fun _ _ => rfl)) pa_nil))))))))))))))))))), ?_⟩
    obtain ⟨l, us, ls, rfl, hL, hA, hok, h0, h8, k⟩ := h
    have z1 : 1 ≤ sizeLine := by decide
    have hul : us.length = ls.length := by
      have := DpAll.length hA
      rw [List.length_map] at this
      exact this
    refine ⟨_, rfl, l, us, rfl, .inl (SqL.of hL), fun q1 hq1 => ?_⟩
    have e1 := same_new (o := .lst us) hq1
    refine ⟨z1, fun q2 hq2 => ?_⟩
    have e2 := same_new (o := .lst [V.non]) hq2
    refine ⟨q2, 8, [.non], rfl, rfl, upd_same, by decide, by decide, by decide, fun q3 hq3 => ?_⟩
    have e3 := same_new (o := .lst (List.replicate (8 : Int).toNat [V.non]).flatten) hq3
    refine ⟨q1, q3, us, _, rfl, rfl, (e2.trans e3) _ _ upd_same, upd_same, ?_, fun q4 hq4 => ?_⟩
    · exact Bx.sz (by show us.length + 8 ≤ _; omega)
    have e4 := same_new (o := .lst (us ++ (List.replicate (8 : Int).toNat [V.non]).flatten)) hq4
    have ee := e1.trans (e2.trans (e3.trans e4))
    have hL4 := ee _ _ hL
    have hA4 := Dp.sameAll ee hA
    have hq := upd_same (a := q4) (o := HO.lst (us ++ (List.replicate (8 : Int).toNat [V.non]).flatten)) (H := upd (upd (upd H q1 (.lst us)) q2 (.lst [V.non])) q3 (.lst (List.replicate (8 : Int).toNat [V.non]).flatten))
    generalize upd (upd (upd (upd H q1 _) q2 _) q3 _) q4 _ = H4 at *
    have mk := fun x dx (h1 : H4 x = none) (h2 : H4 dx = none) (h3 : dx ≠ x) => prog_make (E := E') hA4 hok h0 (by omega) (fun p H' e S => k p H' (ee.trans e) S) x dx h1 h2 h3
    match us, hul, hq, mk, hL4 with
    | [], hul, hq, mk, hL4 => exact absurd hul (by show ¬ 0 = ls.length; omega)
    | [v0], hul, hq, mk, hL4 =>
      refine ⟨_, rfl, l, _, rfl, .inl (SqL.of hL4), rfl, _, rfl, ite_t (deq (by show ((1 : Nat) : Int) = 1; decide)) ?_⟩
      exact ⟨_, rfl, q4, _, _, _, rfl, rfl, SqL.of hq, rfl, mk⟩
    | [v0, v1], hul, hq, mk, hL4 =>
      refine ⟨_, rfl, l, _, rfl, .inl (SqL.of hL4), rfl, _, rfl, ite_f (dne (by show ((2 : Nat) : Int) ≠ 1; decide)) ?_⟩
      refine ⟨_, rfl, l, _, rfl, .inl (SqL.of hL4), rfl, _, rfl, ite_t (deq (by show ((2 : Nat) : Int) = 2; decide)) ?_⟩
      exact ⟨_, rfl, q4, _, _, _, rfl, rfl, SqL.of hq, rfl, _, rfl, q4, _, _, _, rfl, rfl, SqL.of hq, rfl, mk⟩
    | [v0, v1, v2], hul, hq, mk, hL4 =>
      refine ⟨_, rfl, l, _, rfl, .inl (SqL.of hL4), rfl, _, rfl, ite_f (dne (by show ((3 : Nat) : Int) ≠ 1; decide)) ?_⟩
      refine ⟨_, rfl, l, _, rfl, .inl (SqL.of hL4), rfl, _, rfl, ite_f (dne (by show ((3 : Nat) : Int) ≠ 2; decide)) ?_⟩
      refine ⟨_, rfl, l, _, rfl, .inl (SqL.of hL4), rfl, _, rfl, ite_t (deq (by show ((3 : Nat) : Int) = 3; decide)) ?_⟩
      exact ⟨_, rfl, q4, _, _, _, rfl, rfl, SqL.of hq, rfl, _, rfl, q4, _, _, _, rfl, rfl, SqL.of hq, rfl, _, rfl, q4, _, _, _, rfl, rfl, SqL.of hq, rfl, mk⟩
    | [v0, v1, v2, v3], hul, hq, mk, hL4 =>
      refine ⟨_, rfl, l, _, rfl, .inl (SqL.of hL4), rfl, _, rfl, ite_f (dne (by show ((4 : Nat) : Int) ≠ 1; decide)) ?_⟩
      refine ⟨_, rfl, l, _, rfl, .inl (SqL.of hL4), rfl, _, rfl, ite_f (dne (by show ((4 : Nat) : Int) ≠ 2; decide)) ?_⟩
      refine ⟨_, rfl, l, _, rfl, .inl (SqL.of hL4), rfl, _, rfl, ite_f (dne (by show ((4 : Nat) : Int) ≠ 3; decide)) ?_⟩
      refine ⟨_, rfl, l, _, rfl, .inl (SqL.of hL4), rfl, _, rfl, ite_t (deq (by show ((4 : Nat) : Int) = 4; decide)) ?_⟩
      exact ⟨_, rfl, q4, _, _, _, rfl, rfl, SqL.of hq, rfl, _, rfl, q4, _, _, _, rfl, rfl, SqL.of hq, rfl, _, rfl, q4, _, _, _, rfl, rfl, SqL.of hq, rfl, _, rfl, q4, _, _, _, rfl, rfl, SqL.of hq, rfl, mk⟩
    | [v0, v1, v2, v3, v4], hul, hq, mk, hL4 =>
      refine ⟨_, rfl, l, _, rfl, .inl (SqL.of hL4), rfl, _, rfl, ite_f (dne (by show ((5 : Nat) : Int) ≠ 1; decide)) ?_⟩
      refine ⟨_, rfl, l, _, rfl, .inl (SqL.of hL4), rfl, _, rfl, ite_f (dne (by show ((5 : Nat) : Int) ≠ 2; decide)) ?_⟩
      refine ⟨_, rfl, l, _, rfl, .inl (SqL.of hL4), rfl, _, rfl, ite_f (dne (by show ((5 : Nat) : Int) ≠ 3; decide)) ?_⟩
      refine ⟨_, rfl, l, _, rfl, .inl (SqL.of hL4), rfl, _, rfl, ite_f (dne (by show ((5 : Nat) : Int) ≠ 4; decide)) ?_⟩
      refine ⟨_, rfl, l, _, rfl, .inl (SqL.of hL4), rfl, _, rfl, ite_t (deq (by show ((5 : Nat) : Int) = 5; decide)) ?_⟩
      exact ⟨_, rfl, q4, _, _, _, rfl, rfl, SqL.of hq, rfl, _, rfl, q4, _, _, _, rfl, rfl, SqL.of hq, rfl, _, rfl, q4, _, _, _, rfl, rfl, SqL.of hq, rfl, _, rfl, q4, _, _, _, rfl, rfl, SqL.of hq, rfl, _, rfl, q4, _, _, _, rfl, rfl, SqL.of hq, rfl, mk⟩
    | [v0, v1, v2, v3, v4, v5], hul, hq, mk, hL4 =>
      refine ⟨_, rfl, l, _, rfl, .inl (SqL.of hL4), rfl, _, rfl, ite_f (dne (by show ((6 : Nat) : Int) ≠ 1; decide)) ?_⟩
      refine ⟨_, rfl, l, _, rfl, .inl (SqL.of hL4), rfl, _, rfl, ite_f (dne (by show ((6 : Nat) : Int) ≠ 2; decide)) ?_⟩
      refine ⟨_, rfl, l, _, rfl, .inl (SqL.of hL4), rfl, _, rfl, ite_f (dne (by show ((6 : Nat) : Int) ≠ 3; decide)) ?_⟩
      refine ⟨_, rfl, l, _, rfl, .inl (SqL.of hL4), rfl, _, rfl, ite_f (dne (by show ((6 : Nat) : Int) ≠ 4; decide)) ?_⟩
      refine ⟨_, rfl, l, _, rfl, .inl (SqL.of hL4), rfl, _, rfl, ite_f (dne (by show ((6 : Nat) : Int) ≠ 5; decide)) ?_⟩
      refine ⟨_, rfl, l, _, rfl, .inl (SqL.of hL4), rfl, _, rfl, ite_t (deq (by show ((6 : Nat) : Int) = 6; decide)) ?_⟩
      exact ⟨_, rfl, q4, _, _, _, rfl, rfl, SqL.of hq, rfl, _, rfl, q4, _, _, _, rfl, rfl, SqL.of hq, rfl, _, rfl, q4, _, _, _, rfl, rfl, SqL.of hq, rfl, _, rfl, q4, _, _, _, rfl, rfl, SqL.of hq, rfl, _, rfl, q4, _, _, _, rfl, rfl, SqL.of hq, rfl, _, rfl, q4, _, _, _, rfl, rfl, SqL.of hq, rfl, mk⟩
    | [v0, v1, v2, v3, v4, v5, v6], hul, hq, mk, hL4 =>
      refine ⟨_, rfl, l, _, rfl, .inl (SqL.of hL4), rfl, _, rfl, ite_f (dne (by show ((7 : Nat) : Int) ≠ 1; decide)) ?_⟩
      refine ⟨_, rfl, l, _, rfl, .inl (SqL.of hL4), rfl, _, rfl, ite_f (dne (by show ((7 : Nat) : Int) ≠ 2; decide)) ?_⟩
      refine ⟨_, rfl, l, _, rfl, .inl (SqL.of hL4), rfl, _, rfl, ite_f (dne (by show ((7 : Nat) : Int) ≠ 3; decide)) ?_⟩
      refine ⟨_, rfl, l, _, rfl, .inl (SqL.of hL4), rfl, _, rfl, ite_f (dne (by show ((7 : Nat) : Int) ≠ 4; decide)) ?_⟩
      refine ⟨_, rfl, l, _, rfl, .inl (SqL.of hL4), rfl, _, rfl, ite_f (dne (by show ((7 : Nat) : Int) ≠ 5; decide)) ?_⟩
      refine ⟨_, rfl, l, _, rfl, .inl (SqL.of hL4), rfl, _, rfl, ite_f (dne (by show ((7 : Nat) : Int) ≠ 6; decide)) ?_⟩
      refine ⟨_, rfl, l, _, rfl, .inl (SqL.of hL4), rfl, _, rfl, ite_t (deq (by show ((7 : Nat) : Int) = 7; decide)) ?_⟩
      exact ⟨_, rfl, q4, _, _, _, rfl, rfl, SqL.of hq, rfl, _, rfl, q4, _, _, _, rfl, rfl, SqL.of hq, rfl, _, rfl, q4, _, _, _, rfl, rfl, SqL.of hq, rfl, _, rfl, q4, _, _, _, rfl, rfl, SqL.of hq, rfl, _, rfl, q4, _, _, _, rfl, rfl, SqL.of hq, rfl, _, rfl, q4, _, _, _, rfl, rfl, SqL.of hq, rfl, _, rfl, q4, _, _, _, rfl, rfl, SqL.of hq, rfl, mk⟩
    | [v0, v1, v2, v3, v4, v5, v6, v7], hul, hq, mk, hL4 =>
      refine ⟨_, rfl, l, _, rfl, .inl (SqL.of hL4), rfl, _, rfl, ite_f (dne (by show ((8 : Nat) : Int) ≠ 1; decide)) ?_⟩
      refine ⟨_, rfl, l, _, rfl, .inl (SqL.of hL4), rfl, _, rfl, ite_f (dne (by show ((8 : Nat) : Int) ≠ 2; decide)) ?_⟩
      refine ⟨_, rfl, l, _, rfl, .inl (SqL.of hL4), rfl, _, rfl, ite_f (dne (by show ((8 : Nat) : Int) ≠ 3; decide)) ?_⟩
      refine ⟨_, rfl, l, _, rfl, .inl (SqL.of hL4), rfl, _, rfl, ite_f (dne (by show ((8 : Nat) : Int) ≠ 4; decide)) ?_⟩
      refine ⟨_, rfl, l, _, rfl, .inl (SqL.of hL4), rfl, _, rfl, ite_f (dne (by show ((8 : Nat) : Int) ≠ 5; decide)) ?_⟩
      refine ⟨_, rfl, l, _, rfl, .inl (SqL.of hL4), rfl, _, rfl, ite_f (dne (by show ((8 : Nat) : Int) ≠ 6; decide)) ?_⟩
      refine ⟨_, rfl, l, _, rfl, .inl (SqL.of hL4), rfl, _, rfl, ite_f (dne (by show ((8 : Nat) : Int) ≠ 7; decide)) ?_⟩
      exact ⟨_, rfl, q4, _, _, _, rfl, rfl, SqL.of hq, rfl, _, rfl, q4, _, _, _, rfl, rfl, SqL.of hq, rfl, _, rfl, q4, _, _, _, rfl, rfl, SqL.of hq, rfl, _, rfl, q4, _, _, _, rfl, rfl, SqL.of hq, rfl, _, rfl, q4, _, _, _, rfl, rfl, SqL.of hq, rfl, _, rfl, q4, _, _, _, rfl, rfl, SqL.of hq, rfl, _, rfl, q4, _, _, _, rfl, rfl, SqL.of hq, rfl, _, rfl, q4, _, _, _, rfl, rfl, SqL.of hq, rfl, mk⟩
    | _ :: _ :: _ :: _ :: _ :: _ :: _ :: _ :: _ :: r, hul, hq, mk, hL4 => exact absurd hul (by show ¬ r.length + 9 = ls.length; omega)

/-! ### _law_pair -/
/-- some pair; the bag alone has changed -/
def sp__law_pair (K : PySem.W.Frag) : Sp := fun vs H Q _ => ∃ (b : Addr) (n : Nat), vs = [.ref b, .int (n : Int)] ∧ Bag H b ∧ 0 < n ∧ n < 100000 ∧
  ∀ (v : V) (x y : Nat) (H' : Hp), PairAt K H' v x y → ¬ (x = 0 ∧ y = 0) → x ≤ n + 3 → y ≤ n + 3 → Bag H' b → Kp b H H' → Q v H'

theorem sc__law_pair : FnScope ["bag", "top_z", "kind", "x", "y"] ["bag", "top_z"] (defScope s__law_pair) := ⟨rfl, rfl, rfl, by decide +kernel, rfl, by decide +kernel, by decide +kernel⟩
theorem ok__law_pair (E : En K mg) (G__law_pull : Good P w K mg base CX0 1 "_law_pull" ["bag", "amount"] (sp__law_pull K)) : Good P w K mg base CX0 2 "_law_pair" ["bag", "top_z"] (sp__law_pair K) := by
  obtain ⟨fd, F⟩ := E.says.def_ 22 (d := d__law_pair) rfl
  refine ⟨fd, ?_, F.bindsN fun _ _ _ _ _ _ us hl => match us, hl with | [_, _], _ => rfl, F.kp, E.gl "_law_pair"⟩
  refine F.ok sc__law_pair (fun vs H Q E' h => ?_) (fun cdv A outer s H vs Q E' hr h => ?_)
  · obtain ⟨b, n, rfl, _⟩ := h; rfl
  · have hu64 := hu64_of hr
    refine ⟨_, PSs.nox (pss_cons (ps_set (i := 2) sc__law_pair.nd rfl (by first | exact Or.inl rfl | exact Or.inr rfl) (pe_G G__law_pull (hr.mono (by decide)) rfl pass0 (pa_cons (pv 0) (pa_cons pe_int pa_nil))))
      (pss_cons (ps_par (i := 3) (j := 4) rfl sc__law_pair.nd rfl rfl (by decide) rfl rfl (pa_cons (pe_op op_add pe_int (pe_G G__law_pull (hr.mono (by decide)) rfl pass0 (pa_cons (pv 0) (pa_cons (pv 1) pa_nil)))) (pa_cons (pe_op op_add pe_int (pe_G G__law_pull (hr.mono (by decide)) rfl pass0 (pa_cons (pv 0) (pa_cons (pv 1) pa_nil)))) pa_nil)) rfl)
      (pss_cons (ps_if (pt_cmpR op_eq (pv 2) pe_int (nomark _))
        (pss_one (ps_ret (pe_tup (pa_cons (pv 3) (pa_cons pe_int pa_nil)))))
        pss_nil)
      (pss_cons (ps_if (pt_cmpR op_eq (pv 2) pe_int (nomark _))
        (pss_one (ps_ret (pe_tup (pa_cons pe_int (pa_cons (pv 4) pa_nil)))))
        pss_nil)
      (pss_cons (ps_if (pt_cmpR op_eq (pv 2) pe_int (nomark _))
        (pss_one (ps_ret (pe_tup (pa_cons (pv 3) (pa_cons (pv 3) pa_nil)))))
        pss_nil)
      (pss_cons (ps_if (pt_cmpR op_eq (pv 2) pe_int (nomark _))
        (pss_one (ps_ret (pe_tup (pa_cons (pv 3) (pa_cons (pe_op op_add pe_int (pe_G G__law_pull (hr.mono (by decide)) rfl pass0 (pa_cons (pv 0) (pa_cons pe_int pa_nil)))) pa_nil)))))
        pss_nil)
      (pss_cons (ps_if (pt_cmpR op_eq (pv 2) pe_int (nomark _))
        (pss_one (ps_ret (pe_tup (pa_cons (pe_op op_add pe_int (pe_G G__law_pull (hr.mono (by decide)) rfl pass0 (pa_cons (pv 0) (pa_cons pe_int pa_nil)))) (pa_cons (pv 4) pa_nil)))))
        pss_nil)
      (pss_one (ps_ret (pe_tup (pa_cons (pv 3) (pa_cons (pv 4) pa_nil)))))))))))), ?_⟩
    obtain ⟨b, n, rfl, B, hn, hn2, k⟩ := h
    refine ⟨_, rfl, b, _, rfl, B, by decide, by decide, fun r1 H1 _ _ B1 k1 => ?_⟩
    refine ⟨_, rfl, _, rfl, b, _, rfl, B1, by omega, by omega, fun x H2 x0 x1 B2 k2 => ⟨_, _, rfl, rfl, _, rfl, _, rfl, b, _, rfl, B2, by omega, by omega, fun y H3 y0 y1 B3 k3 => ⟨_, _, rfl, rfl, _, _, rfl, ?_⟩⟩⟩
    have kk := k1.trans (k2.trans k3)
    have fin : ∀ (X Y : Int) (H' : Hp), 0 ≤ X → 0 ≤ Y → X + Y ≠ 0 → X ≤ n + 3 → Y ≤ n + 3 → Bag H' b → Kp b H H' → ∀ p, H' p = none → Q (.ref p) (upd H' p (.tup [.int X, .int Y])) := fun X Y H' h1 h2 h3 h4 h5 B' k' p hp => by
      refine k _ X.toNat Y.toNat _ ⟨p, rfl, SqT.of ?_⟩ (by omega) (by omega) (by omega) (B'.keep (same_new hp)) (k'.new hp)
      rw [upd_same, show ((X.toNat : Nat) : Int) = X by omega, show ((Y.toNat : Nat) : Int) = Y by omega]
    have s2 : 2 ≤ sizeLine := by decide
    refine ⟨_, rfl, rfl, _, rfl, ?_⟩
    refine ite2 (fun _ => ⟨_, rfl, s2, fin _ _ H3 (by omega) (by omega) (by omega) (by omega) (by omega) B3 kk⟩) (fun _ => ?_)
    refine ⟨_, rfl, rfl, _, rfl, ?_⟩
    refine ite2 (fun _ => ⟨_, rfl, s2, fin _ _ H3 (by omega) (by omega) (by omega) (by omega) (by omega) B3 kk⟩) (fun _ => ?_)
    refine ⟨_, rfl, rfl, _, rfl, ?_⟩
    refine ite2 (fun _ => ⟨_, rfl, _, rfl, s2, fin _ _ H3 (by omega) (by omega) (by omega) (by omega) (by omega) B3 kk⟩) (fun _ => ?_)
    refine ⟨_, rfl, rfl, _, rfl, ?_⟩
    refine ite2 (fun _ => ⟨_, rfl, _, rfl, b, _, rfl, B3, by decide, by decide, fun z H4 z0 z1 B4 k4 => ⟨_, _, rfl, rfl, s2, fin _ _ H4 (by omega) (by omega) (by omega) (by omega) (by omega) B4 (kk.trans k4)⟩⟩) (fun _ => ?_)
    refine ⟨_, rfl, rfl, _, rfl, ?_⟩
    refine ite2 (fun _ => ⟨_, rfl, b, _, rfl, B3, by decide, by decide, fun z H4 z0 z1 B4 k4 => ⟨_, _, rfl, rfl, _, rfl, s2, fin _ _ H4 (by omega) (by omega) (by omega) (by omega) (by omega) B4 (kk.trans k4)⟩⟩) (fun _ => ?_)
    exact ⟨_, rfl, _, rfl, s2, fin _ _ H3 (by omega) (by omega) (by omega) (by omega) (by omega) B3 kk⟩

/-! ### _law_true -/
/-- what a test says -/
def sp__law_true (K : PySem.W.Frag) : Sp := fun vs H Q _ => ∃ (v : V) (t : Tst) (p a : Addr) (x y : Nat) (va : List Nat), vs = [v, .ref p, .ref a] ∧ Dp K H v t.d ∧ t.Ok ∧ SqT K H p [.int (x : Int), .int (y : Int)] ∧ SqT K H a (va.map fun n : Nat => V.int (n : Int)) ∧ va.length = 3 ∧ ∀ H', Same H H' → Q (.bl (t.tru x y va)) H'

theorem sc__law_true : FnScope ["test", "pair", "values", "x", "y", "number"] ["test", "pair", "values"] (defScope s__law_true) := ⟨rfl, rfl, rfl, by decide +kernel, rfl, by decide +kernel, by decide +kernel⟩
theorem ok__law_true (E : En K mg) : Good P w K mg base CX0 1 "_law_true" ["test", "pair", "values"] (sp__law_true K) := by
  obtain ⟨fd, F⟩ := E.says.def_ 23 (d := d__law_true) rfl
  refine ⟨fd, ?_, F.bindsN fun _ _ _ _ _ _ us hl => match us, hl with | [_, _, _], _ => rfl, F.kp, E.gl "_law_true"⟩
  refine F.ok sc__law_true (fun vs H Q E' h => ?_) (fun cdv A outer s H vs Q E' hr h => ?_)
  · obtain ⟨v, t, p, a, x, y, va, rfl, _⟩ := h; rfl
  · have hu64 := hu64_of hr
    refine ⟨_, PSs.nox (pss_cons (ps_asg (pv 1) (pg_tup rfl (pgs_cons (pg_name (i := 3) sc__law_true.nd rfl (by first | exact Or.inl rfl | exact Or.inr rfl)) (pgs_cons (pg_name (i := 4) sc__law_true.nd rfl (by first | exact Or.inl rfl | exact Or.inr rfl)) pgs_nil))))
      (pss_cons (ps_if (pt_cmpR op_eq (pe_ix ix_tup (pv 0) pe_int (fun _ _ => rfl)) pe_str (nomark _))
        (pss_one (ps_ret (pe_cmpR op_lt (pv 3) (pv 4) (nomark _))))
        pss_nil)
      (pss_cons (ps_if (pt_cmpR op_eq (pe_ix ix_tup (pv 0) pe_int (fun _ _ => rfl)) pe_str (nomark _))
        (pss_one (ps_ret (pe_cmpR op_eq (pv 3) (pv 4) (nomark _))))
        pss_nil)
      (pss_cons (ps_if (pt_cmpR op_eq (pe_ix ix_tup (pv 0) pe_int (fun _ _ => rfl)) pe_str (nomark _))
        (pss_one (ps_ret (pe_cmpR op_gt (pv 3) (pv 4) (nomark _))))
        pss_nil)
      (pss_cons (ps_if (pt_cmpR op_eq (pe_ix ix_tup (pv 0) pe_int (fun _ _ => rfl)) pe_str (nomark _))
        (pss_one (ps_ret (pe_cmpR op_eq (pe_ix ix_tup (pv 2) (pe_bm PySem.F.plainAttrs_list PySem.F.slot_list_index PySem.F.type_list_index mt_index (pe_lst (pa_cons pe_str (pa_cons pe_str (pa_cons pe_str pa_nil)))) (pa_cons (pe_ix ix_tup (pv 0) pe_int (fun _ _ => rfl)) pa_nil)) (fun _ _ => rfl)) (pe_ix ix_tup (pv 0) pe_int (fun _ _ => rfl)) (nomark _))))
        pss_nil)
      (pss_cons (ps_set (i := 5) sc__law_true.nd rfl (by first | exact Or.inl rfl | exact Or.inr rfl) (pe_ifExp (pt_cmpR op_eq (pe_ix ix_tup (pv 0) pe_int (fun _ _ => rfl)) pe_str (nomark _)) (pv 3) (pv 4)))
      (pss_cons (ps_if (pt_cmpR op_eq (pe_ix ix_tup (pv 0) pe_int (fun _ _ => rfl)) pe_str (nomark _))
        (pss_one (ps_ret (pe_cmpR op_eq (pv 5) pe_int (nomark _))))
        pss_nil)
      (pss_one (ps_ret (pe_cmpR op_eq (pe_op op_mod (pe_callTy call_int1 (by rfl) (E.fr "int") (by decide +kernel) (pa_cons (pv 5) pa_nil)) (pe_callB (call_max2 rfl) (by rfl) (E.fr "max") (by decide +kernel) (pa_cons pe_int (pa_cons (pe_ix ix_tup (pv 0) pe_int (fun _ _ => rfl)) pa_nil)))) (pe_ix ix_tup (pv 0) pe_int (fun _ _ => rfl)) (nomark _))))))))))), ?_⟩
    obtain ⟨v, t, p, a, x, y, va, rfl, hv, ht, hP, hV, hl, k⟩ := h
    obtain ⟨c, ws, rfl, hT, hC⟩ := Dp.tst hv
    have z3 : 3 ≤ sizeLine := by decide
    have kH := k H (Same.refl _)
    refine ⟨_, rfl, p, _, rfl, hP, rfl, _, _, rfl, _, _, rfl, rfl, ?_⟩
    cases t with
    | ord o =>
      cases o with
      | less =>
        refine ⟨_, rfl, c, _, _, _, rfl, rfl, hT, at_0 _ _, rfl, _, rfl, ite_t (Tst.w_is _ 0) ?_⟩
        refine ⟨_, rfl, _, rfl, _, _, rfl, rfl, ?_⟩
        show Q (.bl (decide ((x : Int) < (y : Int)))) H
        rw [show decide ((x : Int) < (y : Int)) = decide (x < y) from decide_eq_decide.mpr (by omega)]
        exact kH
      | equal =>
        refine ⟨_, rfl, c, _, _, _, rfl, rfl, hT, at_0 _ _, rfl, _, rfl, ite_f (Tst.w_is _ 0) ?_⟩
        refine ⟨_, rfl, c, _, _, _, rfl, rfl, hT, at_0 _ _, rfl, _, rfl, ite_t (Tst.w_is _ 1) ?_⟩
        refine ⟨_, rfl, _, rfl, rfl, ?_⟩
        rw [deN]
        exact kH
      | more =>
        refine ⟨_, rfl, c, _, _, _, rfl, rfl, hT, at_0 _ _, rfl, _, rfl, ite_f (Tst.w_is _ 0) ?_⟩
        refine ⟨_, rfl, c, _, _, _, rfl, rfl, hT, at_0 _ _, rfl, _, rfl, ite_f (Tst.w_is _ 1) ?_⟩
        refine ⟨_, rfl, c, _, _, _, rfl, rfl, hT, at_0 _ _, rfl, _, rfl, ite_t (Tst.w_is _ 2) ?_⟩
        refine ⟨_, rfl, _, rfl, _, _, rfl, rfl, ?_⟩
        show Q (.bl (decide ((y : Int) < (x : Int)))) H
        rw [show decide ((y : Int) < (x : Int)) = decide (y < x) from decide_eq_decide.mpr (by omega)]
        exact kH
    | holds v n =>
      refine ⟨_, rfl, c, _, _, _, rfl, rfl, hT, at_0 _ _, rfl, _, rfl, ite_f (Tst.w_is _ 0) ?_⟩
      refine ⟨_, rfl, c, _, _, _, rfl, rfl, hT, at_0 _ _, rfl, _, rfl, ite_f (Tst.w_is _ 1) ?_⟩
      refine ⟨_, rfl, c, _, _, _, rfl, rfl, hT, at_0 _ _, rfl, _, rfl, ite_f (Tst.w_is _ 2) ?_⟩
      refine ⟨_, rfl, c, _, _, _, rfl, rfl, hT, at_0 _ _, rfl, _, rfl, ite_t (Tst.w_is _ 4) ?_⟩
      obtain ⟨u1, u2, rfl, h1, h2⟩ := DpAll.two' hC
      obtain rfl := Dp.strE h1
      obtain rfl := Dp.intE h2
      refine ⟨_, rfl, z3, fun l hl2 => ⟨.inl ⟨rfl, _, SqL.of upd_same⟩, ?_⟩⟩
      have e1 := same_new (o := .lst [V.str "a", .str "b", .str "c"]) hl2
      refine ⟨_, rfl, c, _, _, _, rfl, rfl, seqT e1 hT, at_1 _ _ _, l, _, _, v.j, .str v.s, rfl, rfl, SqL.of upd_same, rfl, rfl, v3_at v, v3_eq v, v3_idx v, ?_⟩
      refine ⟨a, _, _, _, rfl, rfl, seqT e1 hV, atI_nat (v3_get hl v), _, rfl, c, _, _, _, rfl, rfl, seqT e1 hT, at_2 _ _ _ _, rfl, ?_⟩
      rw [deN]
      exact k _ e1
    | zero ax =>
      refine ⟨_, rfl, c, _, _, _, rfl, rfl, hT, at_0 _ _, rfl, _, rfl, ite_f (Tst.w_is _ 0) ?_⟩
      refine ⟨_, rfl, c, _, _, _, rfl, rfl, hT, at_0 _ _, rfl, _, rfl, ite_f (Tst.w_is _ 1) ?_⟩
      refine ⟨_, rfl, c, _, _, _, rfl, rfl, hT, at_0 _ _, rfl, _, rfl, ite_f (Tst.w_is _ 2) ?_⟩
      refine ⟨_, rfl, c, _, _, _, rfl, rfl, hT, at_0 _ _, rfl, _, rfl, ite_f (Tst.w_is _ 4) ?_⟩
      obtain ⟨u1, rfl, h1⟩ := DpAll.one' hC
      obtain rfl := Dp.strE h1
      refine ⟨_, rfl, c, _, _, _, rfl, rfl, hT, at_1 _ _ _, rfl, _, rfl, ?_⟩
      rw [axS_x]
      cases ax with
      | true =>
        refine ite_t rfl ⟨_, rfl, _, rfl, c, _, _, _, rfl, rfl, hT, at_0 _ _, rfl, _, rfl, ite_t (Tst.w_is _ 3) ?_⟩
        refine ⟨_, rfl, rfl, ?_⟩
        rw [show (V.int 0) = V.int ((0 : Nat) : Int) from rfl, deN]
        exact kH
      | false =>
        refine ite_f rfl ⟨_, rfl, _, rfl, c, _, _, _, rfl, rfl, hT, at_0 _ _, rfl, _, rfl, ite_t (Tst.w_is _ 3) ?_⟩
        refine ⟨_, rfl, rfl, ?_⟩
        rw [show (V.int 0) = V.int ((0 : Nat) : Int) from rfl, deN]
        exact kH
    | rest ax m r =>
      refine ⟨_, rfl, c, _, _, _, rfl, rfl, hT, at_0 _ _, rfl, _, rfl, ite_f (Tst.w_is _ 0) ?_⟩
      refine ⟨_, rfl, c, _, _, _, rfl, rfl, hT, at_0 _ _, rfl, _, rfl, ite_f (Tst.w_is _ 1) ?_⟩
      refine ⟨_, rfl, c, _, _, _, rfl, rfl, hT, at_0 _ _, rfl, _, rfl, ite_f (Tst.w_is _ 2) ?_⟩
      refine ⟨_, rfl, c, _, _, _, rfl, rfl, hT, at_0 _ _, rfl, _, rfl, ite_f (Tst.w_is _ 4) ?_⟩
      obtain ⟨u1, u2, u3, rfl, h1, h2, h3⟩ := DpAll.three' hC
      obtain rfl := Dp.strE h1
      obtain rfl := Dp.intE h2
      obtain rfl := Dp.intE h3
      have hm : m = 2 ∨ m = 3 := ht.1
      have hmax : (if (m : Int) > 1 then (m : Int) else 1) = (m : Int) := if_pos (by omega)
      refine ⟨_, rfl, c, _, _, _, rfl, rfl, hT, at_1 _ _ _, rfl, _, rfl, ?_⟩
      rw [axS_x]
      cases ax with
      | true =>
        refine ite_t rfl ⟨_, rfl, _, rfl, c, _, _, _, rfl, rfl, hT, at_0 _ _, rfl, _, rfl, ite_f (Tst.w_is _ 3) ?_⟩
        refine ⟨_, rfl, .inl ⟨_, rfl, _, rfl, c, _, _, _, rfl, rfl, hT, at_2 _ _ _ _, _, _, rfl, ?_⟩⟩
        rw [hmax]
        refine ⟨_, _, rfl, rfl, (by show (0 : Int) < (m : Int); omega), _, rfl, c, _, _, _, rfl, rfl, hT, at_3 _ _ _ _ _, rfl, ?_⟩
        show Q (.bl (decide (V.int ((x : Int) % (m : Int)) = V.int (r : Int)))) H
        rw [← Int.natCast_emod, deN]
        exact kH
      | false =>
        refine ite_f rfl ⟨_, rfl, _, rfl, c, _, _, _, rfl, rfl, hT, at_0 _ _, rfl, _, rfl, ite_f (Tst.w_is _ 3) ?_⟩
        refine ⟨_, rfl, .inl ⟨_, rfl, _, rfl, c, _, _, _, rfl, rfl, hT, at_2 _ _ _ _, _, _, rfl, ?_⟩⟩
        rw [hmax]
        refine ⟨_, _, rfl, rfl, (by show (0 : Int) < (m : Int); omega), _, rfl, c, _, _, _, rfl, rfl, hT, at_3 _ _ _ _ _, rfl, ?_⟩
        show Q (.bl (decide (V.int ((y : Int) % (m : Int)) = V.int (r : Int)))) H
        rw [← Int.natCast_emod, deN]
        exact kH

/-! ### _law_rests -/
/-- two rests, one of them moved -/
def sp__law_rests (K : PySem.W.Frag) : Sp := fun vs H Q _ => ∃ (p b : Addr) (w : Str) (ax : Bool) (m x y : Nat), vs = [.ref p, .ref b, .int (m : Int)] ∧ SqT K H p [.int (x : Int), .int (y : Int)] ∧ SqT K H b [.str w, .str (axS ax)] ∧ 0 < m ∧ m ≤ 6 ∧ x < m ∧ y < m ∧
  ∀ (q : Addr) (x' y' : Nat), x' < m → y' < m → H q = none → Q (.ref q) (upd H q (.tup [.int (x' : Int), .int (y' : Int)]))

theorem sc__law_rests : FnScope ["rests", "line", "modu", "x", "y", "sign"] ["rests", "line", "modu"] (defScope s__law_rests) := ⟨rfl, rfl, rfl, by decide +kernel, rfl, by decide +kernel, by decide +kernel⟩
theorem ok__law_rests (E : En K mg) : Good P w K mg base CX0 1 "_law_rests" ["rests", "line", "modu"] (sp__law_rests K) := by
  obtain ⟨fd, F⟩ := E.says.def_ 24 (d := d__law_rests) rfl
  refine ⟨fd, ?_, F.bindsN fun _ _ _ _ _ _ us hl => match us, hl with | [_, _, _], _ => rfl, F.kp, E.gl "_law_rests"⟩
  refine F.ok sc__law_rests (fun vs H Q E' h => ?_) (fun cdv A outer s H vs Q E' hr h => ?_)
  · obtain ⟨p, b, w, ax, m, x, y, rfl, _⟩ := h; rfl
  · have hu64 := hu64_of hr
    refine ⟨_, PSs.nox (pss_cons (ps_asg (pv 0) (pg_tup rfl (pgs_cons (pg_name (i := 3) sc__law_rests.nd rfl (by first | exact Or.inl rfl | exact Or.inr rfl)) (pgs_cons (pg_name (i := 4) sc__law_rests.nd rfl (by first | exact Or.inl rfl | exact Or.inr rfl)) pgs_nil))))
      (pss_cons (ps_set (i := 5) sc__law_rests.nd rfl (by first | exact Or.inl rfl | exact Or.inr rfl) (pe_ifExp (pt_cmpR op_eq (pe_ix ix_tup (pv 1) pe_int (fun _ _ => rfl)) pe_str (nomark _)) pe_int (pe_un un_neg pe_int)))
      (pss_cons (ps_if (pt_cmpR op_eq (pe_ix ix_tup (pv 1) pe_int (fun _ _ => rfl)) pe_str (nomark _))
        (pss_one (ps_ret (pe_tup (pa_cons (pe_op op_mod (pe_callTy call_int1 (by rfl) (E.fr "int") (by decide +kernel) (pa_cons (pe_op op_add (pv 3) (pe_op op_mul (pv 5) (pv 4))) pa_nil)) (pv 2)) (pa_cons (pv 4) pa_nil)))))
        pss_nil)
      (pss_one (ps_ret (pe_tup (pa_cons (pv 3) (pa_cons (pe_op op_mod (pe_callTy call_int1 (by rfl) (E.fr "int") (by decide +kernel) (pa_cons (pe_op op_add (pv 4) (pe_op op_mul (pv 5) (pv 3))) pa_nil)) (pv 2)) pa_nil)))))))), ?_⟩
    obtain ⟨p, b, w, ax, m, x, y, rfl, hP, hB, m0, m6, hx, hy, k⟩ := h
    have z2 : 2 ≤ sizeLine := by decide
    have md : ∀ i : Int, ∃ n : Nat, i % (m : Int) = (n : Int) ∧ n < m := fun i => by
      have h0 := Int.emod_nonneg i (show (m : Int) ≠ 0 by omega)
      have h1 := Int.emod_lt_of_pos i (show 0 < (m : Int) by omega)
      exact ⟨(i % (m : Int)).toNat, by omega, by omega⟩
    refine ⟨_, rfl, p, _, rfl, hP, rfl, _, _, rfl, _, _, rfl, rfl, ?_⟩
    have rest : ∀ sg : Int, -1 ≤ sg → sg ≤ 1 → ∀ q, H q = none → (∃ n : Nat, n < m ∧ ((x : Int) + sg * (y : Int)) % (m : Int) = (n : Int)) := fun sg _ _ q _ => by
      obtain ⟨n, e, h⟩ := md ((x : Int) + sg * (y : Int))
      exact ⟨n, h, e⟩
    clear rest
    refine ⟨_, rfl, b, _, _, _, rfl, rfl, hB, at_0 _ _, rfl, _, rfl, ?_⟩
    refine ite2 (fun _ => ?_) (fun _ => ?_)
    rotate_left
    refine ⟨_, rfl, ?_⟩
    all_goals
      refine ⟨_, rfl, b, _, _, _, rfl, rfl, hB, at_1 _ _ _, rfl, _, rfl, ?_⟩
      refine ite2 (fun _ => ?_) (fun _ => ?_)
      · refine ⟨_, rfl, _, rfl, _, rfl, _, _, rfl, rfl, .inl ⟨by decide, by decide⟩, _, _, rfl, rfl, .inl ⟨_, rfl, _, rfl, _, _, rfl, rfl, (by show (0 : Int) < (m : Int); omega), _, rfl, z2, fun q hq => ?_⟩⟩
        obtain ⟨n, e, hn⟩ := md _
        have h := k q n y hn hy hq
        rw [← e] at h
        exact h
      · refine ⟨_, rfl, _, rfl, _, rfl, _, rfl, _, _, rfl, rfl, .inl ⟨by decide, by decide⟩, _, _, rfl, rfl, .inl ⟨_, rfl, _, rfl, _, _, rfl, rfl, (by show (0 : Int) < (m : Int); omega), z2, fun q hq => ?_⟩⟩
        obtain ⟨n, e, hn⟩ := md _
        have h := k q x n hx hn hq
        rw [← e] at h
        exact h

/-! ### _law_followers -/
/-- the states behind a state -/
def sp__law_followers (K : PySem.W.Frag) : Sp := fun vs H Q _ => ∃ (a : Addr) (us : List V) (ls : List Lin) (v : V) (s : S9) (m : Nat), vs = [.ref a, v, .int (m : Int)] ∧ SqL K H a us ∧ DpAll K H us (ls.map Lin.d) ∧ (∀ x ∈ ls, x.Ok ls.length) ∧ ls.length ≤ 1000 ∧ Dp K H v s.d ∧ s.Ok ls.length m ∧ 0 < m ∧ m ≤ 6 ∧
  ∀ (l : Addr) (ws : List V) (ss : List S9) (H' : Hp), Same H H' → H l = none → H' l = some (.lst ws) → DpAll K H' ws (ss.map S9.d) → (∀ t ∈ ss, t.Ok ls.length m) → ss.length ≤ 2 → Q (.ref l) H'
def folW (K : PySem.W.Frag) (H1 : Hp) (a sa lb el : Addr) (m at_ n : Nat) (es : List Nat) : L2.St → Hp → Prop := fun σ H' => ∃ (pr pv : Addr) (x y : Nat) (va : List Nat) (s8 : Option V), σ = [some (.ref a), some (.ref sa), some (.int (m : Int)), some (.int (at_ : Int)), some (.ref pv), some (.ref pr), some (.ref lb), some (.ref el), s8, none] ∧ Same H1 H' ∧
  SqT K H' pr [.int (x : Int), .int (y : Int)] ∧ x < m ∧ y < m ∧ SqT K H' pv (va.map fun n : Nat => V.int (n : Int)) ∧ va.length = 3 ∧ (∀ z ∈ va, z ≤ 3) ∧ H' el = some (.lst (es.map fun n : Nat => V.int (n : Int))) ∧ (∀ e ∈ es, e ≤ n) ∧ es.length ≤ 2
theorem dp_nats {K : PySem.W.Frag} {H : Hp} {v : V} {ns : List Nat} (h : Dp K H v (natsT ns)) : ∃ a, v = .ref a ∧ SqT K H a (ns.map fun n : Nat => V.int (n : Int)) := by
  obtain ⟨a, xs, e, hS, hA⟩ := Dp.tup' h
  have ex : xs = ns.map fun n : Nat => V.int (n : Int) := by
    clear hS e h
    induction ns generalizing xs with
    | nil => cases hA; rfl
    | cons n ns ih =>
      cases hA with
      | cons h1 h2 =>
        obtain rfl := Dp.intE h1
        rw [ih _ h2]
        rfl
  exact ⟨a, e, ex ▸ hS⟩
theorem nats_dp {K : PySem.W.Frag} {H : Hp} {a : Addr} {ns : List Nat} (h : SqT K H a (ns.map fun n : Nat => V.int (n : Int))) : Dp K H (.ref a) (natsT ns) := by
  refine .tup h ?_
  clear h
  induction ns with
  | nil => exact .nil
  | cons n ns ih => exact .cons (.int _) ih

theorem sc__law_followers : FnScope ["rows", "state", "modu", "at", "values", "rests", "line", "ends", "spot", "end"] ["rows", "state", "modu"] (defScope s__law_followers) := ⟨rfl, rfl, rfl, by decide +kernel, rfl, by decide +kernel, by decide +kernel⟩
theorem ok__law_followers (E : En K mg) (G__law_true : Good P w K mg base CX0 1 "_law_true" ["test", "pair", "values"] (sp__law_true K)) (G__law_rests : Good P w K mg base CX0 1 "_law_rests" ["rests", "line", "modu"] (sp__law_rests K)) : Good P w K mg base CX0 2 "_law_followers" ["rows", "state", "modu"] (sp__law_followers K) := by
  obtain ⟨fd, F⟩ := E.says.def_ 25 (d := d__law_followers) rfl
  refine ⟨fd, ?_, F.bindsN fun _ _ _ _ _ _ us hl => match us, hl with | [_, _, _], _ => rfl, F.kp, E.gl "_law_followers"⟩
  refine F.ok sc__law_followers (fun vs H Q E' h => ?_) (fun cdv A outer s H vs Q E' hr h => ?_)
  · obtain ⟨a, us, ls, v, s, m, rfl, _⟩ := h; rfl
  · have hu64 := hu64_of hr
    refine ⟨_, PSs.nox (pss_cons (ps_asg (pv 1) (pg_tup rfl (pgs_cons (pg_name (i := 3) sc__law_followers.nd rfl (by first | exact Or.inl rfl | exact Or.inr rfl)) (pgs_cons (pg_name (i := 4) sc__law_followers.nd rfl (by first | exact Or.inl rfl | exact Or.inr rfl)) (pgs_cons (pg_name (i := 5) sc__law_followers.nd rfl (by first | exact Or.inl rfl | exact Or.inr rfl)) pgs_nil)))))
      (pss_cons (ps_asg (pe_tup (pa_cons (pe_ix ix_list (pv 0) (pv 3) (fun _ _ => rfl)) (pa_cons (pe_lst (pa_cons (pe_op op_add (pv 3) pe_int) pa_nil)) pa_nil))) (pg_tup rfl (pgs_cons (pg_name (i := 6) sc__law_followers.nd rfl (by first | exact Or.inl rfl | exact Or.inr rfl)) (pgs_cons (pg_name (i := 7) sc__law_followers.nd rfl (by first | exact Or.inl rfl | exact Or.inr rfl)) pgs_nil))))
      (C8.pss_cut (ps_if (pt_cmpR op_in_seq (pe_ix ix_tup (pv 6) pe_int (fun _ _ => rfl)) (pe_lst (pa_cons pe_str (pa_cons pe_str pa_nil))) (by rfl))
        (pss_one (ps_set (i := 5) sc__law_followers.nd rfl (by first | exact Or.inl rfl | exact Or.inr rfl) (pe_G G__law_rests (hr.mono (by decide)) rfl pass0 (pa_cons (pv 5) (pa_cons (pv 6) (pa_cons (pv 2) pa_nil))))))
        pss_nil)
      (C8.pss_cut (ps_if (pt_cmpR op_eq (pe_ix ix_tup (pv 6) pe_int (fun _ _ => rfl)) pe_str (nomark _))
        (pss_cons (ps_set (i := 8) sc__law_followers.nd rfl (by first | exact Or.inl rfl | exact Or.inr rfl) (pe_bm PySem.F.plainAttrs_list PySem.F.slot_list_index PySem.F.type_list_index mt_index (pe_lst (pa_cons pe_str (pa_cons pe_str (pa_cons pe_str pa_nil)))) (pa_cons (pe_ix ix_tup (pv 6) pe_int (fun _ _ => rfl)) pa_nil)))
      (pss_one (ps_set (i := 4) sc__law_followers.nd rfl (by first | exact Or.inl rfl | exact Or.inr rfl) (pe_op op_catA (pe_op op_catA (pe_slice sl_tup (pv 4) po_none (po_some (pv 8))) (pe_tup (pa_cons (pe_ix ix_tup (pv 6) pe_int (fun _ _ => rfl)) pa_nil))) (pe_slice sl_tup (pv 4) (po_some (pe_op op_add (pv 8) pe_int)) po_none)))))
        pss_nil)
      (C8.pss_cut (ps_if (PW.pt (pw_and (pt_cmpR op_eq (pe_ix ix_tup (pv 6) pe_int (fun _ _ => rfl)) pe_str (nomark _)) (pw_and1 (pt_cmpR op_in_seq (pe_ix ix_tup (pe_ix ix_tup (pv 6) pe_int (fun _ _ => rfl)) pe_int (fun _ _ => rfl)) (pe_lst (pa_cons pe_str (pa_cons pe_str pa_nil))) (by rfl)))))
        (pss_one (ps_set (i := 7) sc__law_followers.nd rfl (by first | exact Or.inl rfl | exact Or.inr rfl) (pe_lst (pa_cons (pe_ifExp (pt_val (pe_G G__law_true (hr.mono (by decide)) rfl pass0 (pa_cons (pe_ix ix_tup (pv 6) pe_int (fun _ _ => rfl)) (pa_cons (pv 5) (pa_cons (pv 4) pa_nil))))) (pe_ix ix_tup (pv 6) pe_int (fun _ _ => rfl)) (pe_op op_add (pv 3) pe_int)) pa_nil))))
        (pss_one (ps_if (pt_cmpR op_in_seq (pe_ix ix_tup (pv 6) pe_int (fun _ _ => rfl)) (pe_lst (pa_cons pe_str (pa_cons pe_str pa_nil))) (by rfl))
        (pss_one (ps_set (i := 7) sc__law_followers.nd rfl (by first | exact Or.inl rfl | exact Or.inr rfl) (pe_lst (pa_cons (pe_op op_add (pv 3) pe_int) (pa_cons (pe_ix ix_tup (pv 6) (pe_un un_neg pe_int) (fun _ _ => rfl)) pa_nil)))))
        pss_nil)))
      (C8.pss_cut (ps_if (pt_cmpR op_eq (pe_ix ix_tup (pv 6) pe_int (fun _ _ => rfl)) pe_str (nomark _))
        (pss_one (ps_set (i := 7) sc__law_followers.nd rfl (by first | exact Or.inl rfl | exact Or.inr rfl) (pe_lst (pa_cons (pe_ix ix_tup (pv 6) pe_int (fun _ _ => rfl)) pa_nil))))
        pss_nil)
      (pss_one (ps_ret (pe_lc (own := [("end", 9)]) (by rfl) sc__law_followers.nd (pi_list (pv 7)) (blkOk_by (N := ["rows", "state", "modu", "at", "values", "rests", "line", "ends", "spot", "end"]) (sc := defScope s__law_followers) (by decide +kernel)) (by exact fun _ _ _ _ _ => (pg_name (i := 9) sc__law_followers.nd rfl (by first | exact Or.inl rfl | exact Or.inr rfl))) (by exact fun _ _ _ _ _ => (pts_one (PW.pt (pw_and (pt_cmpR op_lt (pv 9) (pe_callB (show CallR _ _ (rLenC K) from call_len_seq) (by rfl) (E.fr "len") (by decide +kernel) (pa_cons (pv 0) pa_nil)) (nomark _)) (pw_and1 (pt_cmpR op_ne (pe_ix (show IxR _ (rIxT K) from ix_tup) (pv 6) pe_int (fun _ _ => rfl)) pe_str (nomark _))))))) (by exact fun _ _ _ _ _ => (pe_tup (pa_cons (pv 9) (pa_cons (pv 4) (pa_cons (pv 5) pa_nil)))))))))))))), ?_⟩
    obtain ⟨a, us, ls, v, s, m, rfl, hL, hA, hok, hn, hv, hs, m0, m6, k⟩ := h
    have z1 : 1 ≤ sizeLine := by decide
    have z2 : 2 ≤ sizeLine := by decide
    have z3 : 3 ≤ sizeLine := by decide
    obtain ⟨at_, vs, x, y⟩ := s
    obtain ⟨hat, hvl, hv3, hxm, hym⟩ := hs
    have hat : at_ < ls.length := hat
    have hvl : vs.length = 3 := hvl
    have hv3 : ∀ z ∈ vs, z ≤ 3 := hv3
    have hxm : x < m := hxm
    have hym : y < m := hym
    obtain ⟨sa, xs, rfl, hS, hD⟩ := Dp.tup' hv
    obtain ⟨u1, u2, u3, rfl, g1, g2, g3⟩ := DpAll.three' hD
    obtain rfl := Dp.intE g1
    obtain ⟨pv0, rfl, hV⟩ := dp_nats g2
    obtain ⟨pr0, ys, rfl, hR, hD2⟩ := Dp.tup' g3
    obtain ⟨w1, w2, rfl, f1, f2⟩ := DpAll.two' hD2
    obtain rfl := Dp.intE f1
    obtain rfl := Dp.intE f2
    have hul : us.length = ls.length := by
      have := DpAll.length hA
      rw [List.length_map] at this
      exact this
    -- at, values, rests = state
    refine ⟨_, rfl, sa, _, rfl, hS, rfl, _, _, rfl, _, _, rfl, _, _, rfl, rfl, ?_⟩
    -- line, ends = rows[at], [at + 1]
    have hz : us[at_]? = some us[at_] := List.getElem?_eq_getElem (by omega)
    obtain ⟨l, hl, hlv⟩ := lin_at hA hz
    have hx := hok l (List.mem_of_getElem? hl)
    obtain ⟨lb, ws, elb, hB, hC⟩ := Dp.lin hlv
    refine ⟨_, rfl, _, rfl, a, _, _, _, rfl, rfl, hL, atI_nat hz, _, rfl, _, _, rfl, rfl, z1, fun el hel => ⟨z2, fun q hq => ?_⟩⟩
    rw [elb]
    have eE := same_new (o := .lst [V.int ((at_ : Int) + 1)]) hel
    have eQ := same_new (o := .tup [V.ref lb, V.ref el]) hq
    have e1 := eE.trans eQ
    refine ⟨q, _, rfl, SqT.of upd_same, rfl, _, _, rfl, _, _, rfl, rfl, ?_⟩
    have hel1 := eQ _ _ (upd_same (a := el) (o := .lst [V.int ((at_ : Int) + 1)]) (H := H))
    have hL1 := Same.seq e1 hL
    have hB1 := seqT e1 hB
    have hC1 := Dp.sameAll e1 hC
    have hV1 := seqT e1 hV
    have hR1 := seqT e1 hR
    have e0 := e1
    generalize upd (upd H el _) q _ = H1 at *
    clear hq hel eQ eE e1 hS hD g1 g2 g3 hR hD2 f1 f2 hV hv hB hC
    have start : folW K H1 a sa lb el m at_ ls.length [at_ + 1] [some (.ref a), some (.ref sa), some (.int (m : Int)), some (.int (at_ : Int)), some (.ref pv0), some (.ref pr0), some (.ref lb), some (.ref el), none, none] H1 :=
      ⟨pr0, pv0, x, y, vs, none, rfl, Same.refl _, hR1, hxm, hym, hV1, hvl, hv3, hel1, fun e he => by rw [List.mem_singleton.mp he]; omega, by simp⟩
    -- if line[0] in ["add", "take"]
    refine ⟨folW K H1 a sa lb el m at_ ls.length [at_ + 1], ?_, ?_⟩
    · refine ⟨_, rfl, lb, _, _, _, rfl, rfl, hB1, at_0 _ _, z2, fun l1 h1 => ⟨l1, _, rfl, .inl (SqL.of upd_same), rfl, rfl, _, rfl, ?_⟩⟩
      have f1 := same_new (o := .lst [V.str "add", .str "take"]) h1
      have step : ∀ (w : Str) (ax : Bool), SqT K H1 lb [.str w, .str (axS ax)] → sp__law_rests K [.ref pr0, .ref lb, .int (m : Int)] (upd H1 l1 (.lst [V.str "add", .str "take"])) (fun v H' => folW K H1 a sa lb el m at_ ls.length [at_ + 1] [some (.ref a), some (.ref sa), some (.int (m : Int)), some (.int (at_ : Int)), some (.ref pv0), some v, some (.ref lb), some (.ref el), none, none] H') E' := fun w ax hw =>
        ⟨pr0, lb, w, ax, m, x, y, rfl, seqT f1 hR1, seqT f1 hw, m0, m6, hxm, hym, fun q x' y' hx' hy' hq => by
          have f2 := same_new (o := .tup [V.int (x' : Int), .int (y' : Int)]) hq
          exact ⟨q, pv0, x', y', vs, none, rfl, f1.trans f2, SqT.of upd_same, hx', hy', seqT (f1.trans f2) hV1, hvl, hv3, (f1.trans f2) _ _ hel1, fun e he => by rw [List.mem_singleton.mp he]; omega, by simp⟩⟩
      have skip : folW K H1 a sa lb el m at_ ls.length [at_ + 1] [some (.ref a), some (.ref sa), some (.int (m : Int)), some (.int (at_ : Int)), some (.ref pv0), some (.ref pr0), some (.ref lb), some (.ref el), none, none] (upd H1 l1 (.lst [V.str "add", .str "take"])) :=
        ⟨pr0, pv0, x, y, vs, none, rfl, f1, seqT f1 hR1, hxm, hym, seqT f1 hV1, hvl, hv3, f1 _ _ hel1, fun e he => by rw [List.mem_singleton.mp he]; omega, by simp⟩
      cases l with
      | add ax =>
        obtain ⟨u, rfl, hu⟩ := DpAll.one' hC1
        obtain rfl := Dp.strE hu
        exact ite_t (Lin.w_in2 (.add ax) 0 1) ⟨_, rfl, _, rfl, _, rfl, step _ ax hB1⟩
      | take ax =>
        obtain ⟨u, rfl, hu⟩ := DpAll.one' hC1
        obtain rfl := Dp.strE hu
        exact ite_t (Lin.w_in2 (.take ax) 0 1) ⟨_, rfl, _, rfl, _, rfl, step _ ax hB1⟩
      | _ => exact ite_f (Lin.w_in2 _ 0 1) skip
    rintro σ H2 ⟨pr, pv, x, y, va, s8, rfl, e2, hR2, hx2, hy2, hV2, hl2, hv2, hE2, hE3, hE4⟩
    clear start hR1 hV1 hel1
    -- if line[0] == "set"
    refine ⟨folW K H1 a sa lb el m at_ ls.length [at_ + 1], ?_, ?_⟩
    · have hB2 := seqT e2 hB1
      refine ⟨_, rfl, lb, _, _, _, rfl, rfl, hB2, at_0 _ _, rfl, _, rfl, ?_⟩
      have skip : folW K H1 a sa lb el m at_ ls.length [at_ + 1] [some (.ref a), some (.ref sa), some (.int (m : Int)), some (.int (at_ : Int)), some (.ref pv), some (.ref pr), some (.ref lb), some (.ref el), s8, none] H2 :=
        ⟨pr, pv, x, y, va, s8, rfl, e2, hR2, hx2, hy2, hV2, hl2, hv2, hE2, hE3, hE4⟩
      cases l with
      | set v n =>
        obtain ⟨u1, u2, rfl, g1, g2⟩ := DpAll.two' hC1
        obtain rfl := Dp.strE g1
        obtain rfl := Dp.intE g2
        have hj := v3_lt v
        refine ite_t (Lin.w_is (.set v n) 2) ⟨z3, fun l1 h1 => ⟨.inl ⟨rfl, _, SqL.of upd_same⟩, ?_⟩⟩
        have f1 := same_new (o := .lst [V.str "a", .str "b", .str "c"]) h1
        refine ⟨_, rfl, lb, _, _, _, rfl, rfl, seqT f1 hB2, at_1 _ _ _, l1, _, _, v.j, .str v.s, rfl, rfl, SqL.of upd_same, rfl, rfl, v3_at v, v3_eq v, v3_idx v, ?_⟩
        have hB3 := seqT f1 hB2
        have hV3 := seqT f1 hV2
        have e3 := e2.trans f1
        have hR3 := seqT f1 hR2
        have hE5 := f1 _ _ hE2
        generalize upd H2 l1 (.lst [V.str "a", .str "b", .str "c"]) = H3 at *
        have lv : (va.map fun n : Nat => V.int (n : Int)).length = 3 := by rw [List.length_map, hl2]
        refine ⟨_, rfl, _, rfl, _, rfl, pv, _, rfl, hV3, nwTo (by omega), fun p1 hp1 => ?_⟩
        rw [cut_to' (by omega)]
        have f2 := same_new (o := .tup ((va.map fun n : Nat => V.int (n : Int)).take v.j)) hp1
        refine ⟨_, rfl, lb, _, _, _, rfl, rfl, seqT f2 hB3, at_2 _ _ _ _, z1, fun p2 hp2 => ?_⟩
        have f3 := same_new (o := .tup [V.int (n : Int)]) hp2
        refine catA_ok (seqT f3 (SqT.of upd_same)) (SqT.of upd_same) (by rw [List.length_take]; show _ + 1 ≤ _; omega) fun p3 H4 e4 hs4 => ?_
        have e14 := f2.trans (f3.trans e4)
        refine ⟨_, rfl, _, rfl, _, _, rfl, rfl, _, rfl, pv, _, rfl, seqT e14 hV3, nwFrom (j := v.j + 1) (by omega) (by omega), fun p5 hp5 => ?_⟩
        have ecut : cutV (va.map fun n : Nat => V.int (n : Int)) (some ((v.j : Int) + 1)) none = (va.map fun n : Nat => V.int (n : Int)).drop (v.j + 1) := cut_from _ (v.j + 1)
        rw [ecut]
        have f5 := same_new (o := .tup ((va.map fun n : Nat => V.int (n : Int)).drop (v.j + 1))) hp5
        refine catA_ok (seqT f5 hs4) (SqT.of upd_same) (by rw [List.length_append, List.length_take, List.length_drop]; show _ + 1 + _ ≤ _; omega) fun p6 H7 e7 hs7 => ?_
        have e17 := e14.trans (f5.trans e7)
        rw [set_cut (by omega)] at hs7
        refine ⟨pr, p6, x, y, va.set v.j n, _, rfl, e3.trans e17, seqT e17 hR3, hx2, hy2, hs7, by rw [List.length_set, hl2], fun z hz => ?_, e17 _ _ hE5, hE3, hE4⟩
        rcases List.mem_or_eq_of_mem_set hz with h | h
        · exact hv2 z h
        · rw [h]; exact hx
      | _ => exact ite_f (Lin.w_is _ 2) skip
    clear hR2 hx2 hy2 hV2 hl2 hv2 hE2 hE3 hE4 e2 pr pv x y va s8 H2
    rintro σ H2 ⟨pr, pv, x, y, va, s8, rfl, e2, hR2, hx2, hy2, hV2, hl2, hv2, hE2, hE3, hE4⟩
    -- if .. elif
    have made : ∀ (es : List Nat) (el' : Addr) (H' : Hp), Same H2 H' → H' el' = some (.lst (es.map fun n : Nat => V.int (n : Int))) → (∀ e ∈ es, e ≤ ls.length) → es.length ≤ 2 → ∃ (el : Addr) (es : List Nat), folW K H1 a sa lb el m at_ ls.length es [some (.ref a), some (.ref sa), some (.int (m : Int)), some (.int (at_ : Int)), some (.ref pv), some (.ref pr), some (.ref lb), some (.ref el'), s8, none] H' := fun es el' H' e h1 h2 h3 =>
      ⟨el', es, pr, pv, x, y, va, s8, rfl, e2.trans e, seqT e hR2, hx2, hy2, seqT e hV2, hl2, hv2, h1, h2, h3⟩
    refine ⟨fun σ H' => ∃ (el : Addr) (es : List Nat), folW K H1 a sa lb el m at_ ls.length es σ H', ?_, ?_⟩
    · have hB2 := seqT e2 hB1
      refine ⟨_, rfl, lb, _, _, _, rfl, rfl, hB2, at_0 _ _, rfl, _, rfl, ?_⟩
      cases l with
      | test t tg =>
        obtain ⟨u1, u2, rfl, g1, g2⟩ := DpAll.two' hC1
        obtain rfl := Dp.intE g2
        obtain ⟨tb, w2, rfl, hT, hTC⟩ := Dp.tst g1
        have htg : tg ≤ ls.length := hx.2
        have hT2 := seqT e2 hT
        refine ite_t (Lin.w_is (.test t tg) 3) ⟨_, rfl, lb, _, _, _, rfl, rfl, hB2, at_1 _ _ _, tb, _, _, _, rfl, rfl, hT2, at_0 _ _, z2, fun l1 h1 => ⟨l1, _, rfl, .inl (SqL.of upd_same), rfl, rfl, _, rfl, ?_⟩⟩
        have f1 := same_new (o := .lst [V.str "rest", .str "holds"]) h1
        rw [show inV (V.str t.w) [V.str "rest", V.str "holds"] = decide (t.wi = 5 ∨ t.wi = 4) from Tst.w_in2 t 5 4]
        refine ite2 (fun _ => ?_) (fun _ => ?_)
        · -- ends = [line[2] if .. else at + 1]
          refine ⟨_, rfl, lb, _, _, _, rfl, rfl, seqT f1 hB2, at_1 _ _ _, _, rfl, _, rfl, .ref tb, t, pr, pv, x, y, va, rfl, Dp.same (e2.trans f1) g1, hx.1, seqT f1 hR2, seqT f1 hV2, hl2, fun H' e' => ⟨_, rfl, ?_⟩⟩
          have f2 := f1.trans e'
          refine ite2 (fun _ => ⟨_, rfl, lb, _, _, _, rfl, rfl, seqT f2 hB2, at_2 _ _ _ _, z1, fun l2 h2 => ?_⟩) (fun _ => ⟨_, rfl, _, _, rfl, rfl, z1, fun l2 h2 => ?_⟩)
          · exact made [tg] l2 _ (f2.trans (same_new h2)) upd_same (fun e he => by rw [List.mem_singleton.mp he]; exact htg) (by simp)
          · exact made [at_ + 1] l2 _ (f2.trans (same_new h2)) upd_same (fun e he => by rw [List.mem_singleton.mp he]; omega) (by simp)
        · -- elif line[0] in ["if", "choose"]
          refine ⟨_, rfl, lb, _, _, _, rfl, rfl, seqT f1 hB2, at_0 _ _, z2, fun l2 h2 => ⟨l2, _, rfl, .inl (SqL.of upd_same), rfl, rfl, _, rfl, ?_⟩⟩
          have f2 := f1.trans (same_new (o := .lst [V.str "if", .str "choose"]) h2)
          refine ite_t (Lin.w_in2 (.test t tg) 3 4) ⟨_, rfl, _, _, rfl, rfl, _, rfl, _, rfl, lb, _, _, _, rfl, rfl, seqT f2 hB2, rfl, z2, fun l3 h3 => ?_⟩
          exact made [at_ + 1, tg] l3 _ (f2.trans (same_new h3)) upd_same (fun e he => by rcases List.mem_cons.mp he with rfl | he; omega; rw [List.mem_singleton.mp he]; exact htg) (by simp)
      | choose tg =>
        obtain ⟨u1, rfl, g1⟩ := DpAll.one' hC1
        obtain rfl := Dp.intE g1
        have htg : tg ≤ ls.length := hx
        refine ite_f (Lin.w_is (.choose tg) 3) ?_
        refine ite_f rfl ⟨_, rfl, lb, _, _, _, rfl, rfl, hB2, at_0 _ _, z2, fun l2 h2 => ⟨l2, _, rfl, .inl (SqL.of upd_same), rfl, rfl, _, rfl, ?_⟩⟩
        have f2 := same_new (o := .lst [V.str "if", .str "choose"]) h2
        refine ite_t (Lin.w_in2 (.choose tg) 3 4) ⟨_, rfl, _, _, rfl, rfl, _, rfl, _, rfl, lb, _, _, _, rfl, rfl, seqT f2 hB2, rfl, z2, fun l3 h3 => ?_⟩
        exact made [at_ + 1, tg] l3 _ (f2.trans (same_new h3)) upd_same (fun e he => by rcases List.mem_cons.mp he with rfl | he; omega; rw [List.mem_singleton.mp he]; exact htg) (by simp)
      | _ =>
        refine ite_f (Lin.w_is _ 3) ?_
        refine ite_f rfl ⟨_, rfl, lb, _, _, _, rfl, rfl, hB2, at_0 _ _, z2, fun l2 h2 => ⟨l2, _, rfl, .inl (SqL.of upd_same), rfl, rfl, _, rfl, ?_⟩⟩
        have f2 := same_new (o := .lst [V.str "if", .str "choose"]) h2
        exact ite_f (Lin.w_in2 _ 3 4) (made [at_ + 1] el _ f2 (f2 _ _ hE2) hE3 (by simp))
    clear made hR2 hx2 hy2 hV2 hl2 hv2 hE2 hE3 hE4 e2 pr pv x y va s8 H2
    rintro σ H2 ⟨el, es, pr, pv, x, y, va, s8, rfl, e2, hR2, hx2, hy2, hV2, hl2, hv2, hE2, hE3, hE4⟩
    -- if line[0] == "go"
    refine ⟨fun σ H' => ∃ (el : Addr) (es : List Nat), folW K H1 a sa lb el m at_ ls.length es σ H', ?_, ?_⟩
    · have hB2 := seqT e2 hB1
      refine ⟨_, rfl, lb, _, _, _, rfl, rfl, hB2, at_0 _ _, rfl, _, rfl, ?_⟩
      cases l with
      | go tg =>
        obtain ⟨u1, rfl, g1⟩ := DpAll.one' hC1
        obtain rfl := Dp.intE g1
        have htg : tg ≤ ls.length := hx
        refine ite_t (Lin.w_is (.go tg) 5) ⟨_, rfl, lb, _, _, _, rfl, rfl, hB2, at_1 _ _ _, z1, fun l2 h2 => ?_⟩
        have f2 := same_new (o := .lst [V.int (tg : Int)]) h2
        exact ⟨l2, [tg], pr, pv, x, y, va, s8, rfl, e2.trans f2, seqT f2 hR2, hx2, hy2, seqT f2 hV2, hl2, hv2, upd_same, fun e he => by rw [List.mem_singleton.mp he]; exact htg, by simp⟩
      | _ => exact ite_f (Lin.w_is _ 5) ⟨el, es, pr, pv, x, y, va, s8, rfl, e2, hR2, hx2, hy2, hV2, hl2, hv2, hE2, hE3, hE4⟩
    clear hR2 hx2 hy2 hV2 hl2 hv2 hE2 hE3 hE4 e2 pr pv x y va s8 H2 el es
    rintro σ H2 ⟨el, es, pr, pv, x, y, va, s8, rfl, e2, hR2, hx2, hy2, hV2, hl2, hv2, hE2, hE3, hE4⟩
    -- return
    have hB2 := seqT e2 hB1
    have hL2 := Same.seq e2 hL1
    refine ⟨_, rfl, el, rfl, ⟨_, SqL.of hE2⟩, fun D hD => ?_⟩
    refine lc_list (K := K) (a := el) (xs := es.map fun n : Nat => V.int (n : Int)) (fun i H' => Same H2 H' ∧ ∃ (ws : List V) (ss : List S9), H' D = some (.lst ws) ∧ DpAll K H' ws (ss.map S9.d) ∧ (∀ t ∈ ss, t.Ok ls.length m) ∧ ss.length ≤ i) ⟨same_new hD, [], [], upd_same, .nil, fun t ht => absurd ht List.not_mem_nil, Nat.le_refl _⟩ (fun _ H' _ q => SqL.of (q.1 _ _ hE2)) ?_ ?_
    · rintro i z H3 hz ⟨e3, ws, ss, hW, hA3, hs3, hl3⟩
      rw [List.getElem?_map] at hz
      obtain ⟨e, he, rfl⟩ := Option.map_eq_some_iff.mp hz
      have hE := hE3 e (List.mem_of_getElem? he)
      have hi2 : i < 2 := by
        have := (List.getElem?_eq_some_iff.mp he).1
        omega
      have wl : ws.length = ss.length := by
        have := DpAll.length hA3
        rw [List.length_map] at this
        exact this
      have stay : Same H2 H3 ∧ ∃ (ws : List V) (ss : List S9), H3 D = some (.lst ws) ∧ DpAll K H3 ws (ss.map S9.d) ∧ (∀ t ∈ ss, t.Ok ls.length m) ∧ ss.length ≤ i + 1 := ⟨e3, ws, ss, hW, hA3, hs3, by omega⟩
      refine ⟨rfl, _, rfl, _, rfl, a, _, rfl, .inl (Same.seq e3 hL2), _, _, rfl, rfl, _, rfl, ?_⟩
      by_cases c : e < ls.length
      · refine ite_t (decide_eq_true (by rw [hul]; omega)) ⟨_, rfl, lb, _, _, _, rfl, rfl, seqT e3 hB2, at_0 _ _, rfl, _, rfl, ?_⟩
        refine ite2 (fun _ => ⟨_, rfl, _, rfl, _, rfl, z3, fun q hq => ?_⟩) (fun _ => stay)
        have f4 := same_new (o := .tup [V.int (e : Int), .ref pv, .ref pr]) hq
        have hW4 := f4 _ _ hW
        have f34 := e3.trans f4
        have new : Dp K (upd H3 q (.tup [V.int (e : Int), .ref pv, .ref pr])) (.ref q) (S9.d ⟨e, va, x, y⟩) := .tup (SqT.of upd_same) (.cons (.int _) (.cons (nats_dp (seqT f34 hV2)) (.cons (.tup (seqT f34 hR2) (.cons (.int _) (.cons (.int _) .nil))) .nil)))
        refine ⟨ws, hW4, szl (by omega), same_mut f34 hD, ws ++ [.ref q], ss ++ [⟨e, va, x, y⟩], upd_same, ?_, fun t ht => ?_, by rw [List.length_append]; show _ + 1 ≤ _; omega⟩
        · refine Dp.sameTs (.put hW4) (s9_nls _) ?_
          rw [List.map_append]
          exact DpAll.append (Dp.sameAll f4 hA3) (.cons new .nil)
        · rcases List.mem_append.mp ht with ht | ht
          · exact hs3 t ht
          · rw [List.mem_singleton.mp ht]
            exact ⟨c, hl2, hv2, hx2, hy2⟩
      · exact ite_f (decide_eq_false (by rw [hul]; omega)) stay
    rintro H3 ⟨e3, ws, ss, hW, hA3, hs3, hl3⟩
    rw [List.length_map] at hl3
    exact k D ws ss H3 (e0.trans (e2.trans e3)) (free_same (e0.trans e2) hD) hW hA3 hs3 (by omega)

/-! ### _law_modulus -/
/-- a modulus that serves the rests of the lines -/
def sp__law_modulus (K : PySem.W.Frag) : Sp := fun vs H Q _ => ∃ (a : Addr) (us : List V) (ls : List Lin) (n : Nat), vs = [.ref a] ∧ SqL K H a us ∧ DpAll K H us (ls.map Lin.d) ∧ (∀ x ∈ ls, x.Ok n) ∧ ∀ m : Nat, (m = 1 ∨ m = 2 ∨ m = 3 ∨ m = 6) → Q (.int (m : Int)) H

theorem sc__law_modulus : FnScope ["rows", "found", "row"] ["rows"] (defScope s__law_modulus) := ⟨rfl, rfl, rfl, by decide +kernel, rfl, by decide +kernel, by decide +kernel⟩
theorem ok__law_modulus (E : En K mg) : Good P w K mg base CX0 1 "_law_modulus" ["rows"] (sp__law_modulus K) := by
  obtain ⟨fd, F⟩ := E.says.def_ 26 (d := d__law_modulus) rfl
  refine ⟨fd, ?_, F.bindsN fun _ _ _ _ _ _ us hl => match us, hl with | [_], _ => rfl, F.kp, E.gl "_law_modulus"⟩
  refine F.ok sc__law_modulus (fun vs H Q E' h => ?_) (fun cdv A outer s H vs Q E' hr h => ?_)
  · obtain ⟨a, us, ls, n, rfl, _⟩ := h; rfl
  · have hu64 := hu64_of hr
    refine ⟨_, PSs.nox (pss_cons (ps_set (i := 1) sc__law_modulus.nd rfl (by first | exact Or.inl rfl | exact Or.inr rfl) pe_int)
      (pss_cons (ps_for PassesOwn.never rfl (pi_list (pv 0)) (pg_name (i := 2) sc__law_modulus.nd rfl (by first | exact Or.inl rfl | exact Or.inr rfl))
        (pss_one (ps_if (PW.pt (pw_and (pt_cmpR op_eq (pe_ix ix_tup (pv 2) pe_int (fun _ _ => rfl)) pe_str (nomark _)) (pw_and (pt_cmpR op_eq (pe_ix ix_tup (pe_ix ix_tup (pv 2) pe_int (fun _ _ => rfl)) pe_int (fun _ _ => rfl)) pe_str (nomark _)) (pw_and1 (pt_cmpR op_gt (pe_op op_mod (pe_callTy call_int1 (by rfl) (E.fr "int") (by decide +kernel) (pa_cons (pv 1) pa_nil)) (pe_ix ix_tup (pe_ix ix_tup (pv 2) pe_int (fun _ _ => rfl)) pe_int (fun _ _ => rfl))) pe_int (nomark _))))))
        (pss_one (ps_set (i := 1) sc__law_modulus.nd rfl (by first | exact Or.inl rfl | exact Or.inr rfl) (pe_op op_mul (pv 1) (pe_ix ix_tup (pe_ix ix_tup (pv 2) pe_int (fun _ _ => rfl)) pe_int (fun _ _ => rfl)))))
        pss_nil)))
      (pss_one (ps_ret (pv 1))))), ?_⟩
    obtain ⟨a, us, ls, n, rfl, hL, hA, hok, k⟩ := h
    refine ⟨_, rfl, a, rfl, ⟨_, hL⟩, for_list (K := K) (a := a) (xs := us) (fun i σ H' => H' = H ∧ ∃ (m : Nat) (s2 : Option V), σ = [some (.ref a), some (.int (m : Int)), s2] ∧ (m = 1 ∨ m = 2 ∨ m = 3 ∨ m = 6)) ⟨rfl, 1, _, rfl, .inl rfl⟩ (fun _ σ H' _ q => by rw [q.1]; exact hL) ?_ ?_⟩
    · rintro i z σ H' hz ⟨rfl, m, s2, rfl, hm⟩
      obtain ⟨l, hl, hv⟩ := lin_at hA hz
      have hx := hok l (List.mem_of_getElem? hl)
      obtain ⟨b, ws, rfl, hS, hB⟩ := Dp.lin hv
      have stay : ∀ s2 : Option V, H' = H' ∧ ∃ (m' : Nat) (s2' : Option V), [some (V.ref a), some (V.int (m : Int)), s2] = [some (V.ref a), some (V.int (m' : Int)), s2'] ∧ (m' = 1 ∨ m' = 2 ∨ m' = 3 ∨ m' = 6) := fun s2 => ⟨rfl, m, s2, rfl, hm⟩
      refine ⟨_, rfl, b, _, _, _, rfl, rfl, hS, at_0 _ _, rfl, _, rfl, ?_⟩
      cases l with
      | test t tg =>
        refine ite_t (Lin.w_is (.test t tg) 3) ?_
        obtain ⟨u1, u2, rfl, h1, h2⟩ := DpAll.two' hB
        obtain ⟨c, w2, rfl, hT, hC⟩ := Dp.tst h1
        refine ⟨_, rfl, b, _, _, _, rfl, rfl, hS, at_1 _ _ _, c, _, _, _, rfl, rfl, hT, at_0 _ _, rfl, _, rfl, ?_⟩
        cases t with
        | rest ax m2 r =>
          refine ite_t (Tst.w_is (.rest ax m2 r) 5) ?_
          obtain ⟨x1, x2, x3, rfl, g1, g2, g3⟩ := DpAll.three' hC
          obtain rfl := Dp.intE g2
          have hm2 : m2 = 2 ∨ m2 = 3 := hx.1.1
          refine ⟨_, rfl, .inl ⟨_, rfl, _, rfl, b, _, _, _, rfl, rfl, hS, at_1 _ _ _, c, _, _, _, rfl, rfl, hT, at_2 _ _ _ _, _, _, rfl, rfl, (by show (0 : Int) < (m2 : Int); omega), _, _, rfl, rfl, _, rfl, ?_⟩⟩
          refine ite2 (fun cc => ?_) (fun _ => stay _)
          have cc : (m : Int) % (m2 : Int) > 0 := of_decide_eq_true cc
          refine ⟨_, rfl, _, rfl, b, _, _, _, rfl, rfl, hS, at_1 _ _ _, c, _, _, _, rfl, rfl, hT, at_2 _ _ _ _, _, _, rfl, rfl, .inl ⟨by omega, by omega⟩, rfl, m * m2, _, rfl, ?_⟩
          rcases hm with rfl | rfl | rfl | rfl <;> rcases hm2 with rfl | rfl <;> first | omega | exact absurd cc (by decide)
        | ord o => exact ite_f (by cases o <;> exact Tst.w_is _ 5) (stay _)
        | _ => exact ite_f (Tst.w_is _ 5) (stay _)
      | _ => exact ite_f (Lin.w_is _ 3) (stay _)
    rintro σ H' ⟨rfl, m, s2, rfl, hm⟩
    exact ⟨_, rfl, k m hm⟩

/-! ### _law_states -/
/-- some list of states: there is an end -/
def sp__law_states (K : PySem.W.Frag) : Sp := fun vs H Q _ => ∃ (a : Addr) (us : List V) (ls : List Lin), vs = [.ref a] ∧ SqL K H a us ∧ DpAll K H us (ls.map Lin.d) ∧ (∀ x ∈ ls, x.Ok ls.length) ∧ 0 < ls.length ∧ ls.length ≤ 20 ∧
  ∀ (l : Addr) (ws : List V) (ss : List S9) (H' : Hp), Same H H' → H' l = some (.lst ws) → DpAll K H' ws (ss.map S9.d) → Q (.ref l) H'
structure StsW (K : PySem.W.Frag) (P : Program) (w : World) (H H' : Hp) (l d : Addr) (n m : Nat) (us : List V) (ss : List S9) (kvs : List EnN) : Prop where
  sm : Same H H'
  fl : H' l = some (.lst us)
  dp : DpAll K H' us (ss.map S9.d)
  nd : ss.Nodup
  ok : ∀ s ∈ ss, s.Ok n m
  fd : H' d = some (dN P w d kvs)
  kn : Knw K H' kvs ss
theorem StsW.len {K : PySem.W.Frag} {P : Program} {w : World} {H H' : Hp} {l d : Addr} {n m : Nat} {us : List V} {ss : List S9} {kvs : List EnN} (h : StsW K P w H H' l d n m us ss kvs) (hm : m ≤ 6) : us.length = ss.length ∧ ss.length ≤ n * 2304 := by
  have h1 := DpAll.length h.dp
  rw [List.length_map] at h1
  refine ⟨h1, ?_⟩
  rw [← uniS_len n]
  exact sub_len _ _ h.nd fun s hs => uniS_mem hm (h.ok s hs)
theorem StsW.grow {K : PySem.W.Frag} {P : Program} {w : World} {H H' H2 : Hp} {l d : Addr} {n m : Nat} {us : List V} {ss : List S9} {kvs : List EnN} (h : StsW K P w H H' l d n m us ss kvs) (e : Same H' H2) : StsW K P w H H2 l d n m us ss kvs :=
  ⟨h.sm.trans e, e _ _ h.fl, Dp.sameAll e h.dp, h.nd, h.ok, e _ _ h.fd, h.kn.tupX (.of e)⟩
/-- known[state] = True; found.append(state) -/
theorem StsW.push {K : PySem.W.Frag} {P : Program} {w : World} {H H' : Hp} {l d b : Addr} {n m : Nat} {us : List V} {ss : List S9} {kvs : List EnN} {s : S9} (h : StsW K P w H H' l d n m us ss kvs) (hl : H l = none) (hd : H d = none) (hs : Dp K H' (.ref b) s.d) (ho : s.Ok n m) (hn : s ∉ ss) :
    (upd H' d (dN P w d (putN kvs s.key b (.bl true)))) l = some (.lst us) ∧ TupX H' (upd (upd H' d (dN P w d (putN kvs s.key b (.bl true)))) l (.lst (us ++ [.ref b]))) ∧ StsW K P w H (upd (upd H' d (dN P w d (putN kvs s.key b (.bl true)))) l (.lst (us ++ [.ref b]))) l d n m (us ++ [.ref b]) (ss ++ [s]) (putN kvs s.key b (.bl true)) := by
  have nld : l ≠ d := fun z => by
    have := h.fl
    rw [z, h.fd] at this
    exact dN_lst (Option.some.inj this)
  have h1 : (upd H' d (dN P w d (putN kvs s.key b (.bl true)))) l = some (.lst us) := by rw [upd_ne nld]; exact h.fl
  have t : TupX H' (upd (upd H' d (dN P w d (putN kvs s.key b (.bl true)))) l (.lst (us ++ [.ref b]))) := (TupX.putN h.fd).trans (TupX.putL h1)
  refine ⟨h1, t, same_mut (same_mut h.sm hd) hl, upd_same, ?_, ?_, fun x hx => ?_, by rw [upd_ne nld.symm, upd_same], (h.kn.push (S9.keyA hs)).tupX t⟩
  · rw [List.map_append]
    exact DpAll.append (Dp.tupXs t (s9_nls ss) h.dp) (.cons (Dp.tupX t s.nl hs) .nil)
  · exact List.nodup_append.mpr ⟨h.nd, List.nodup_cons.mpr ⟨List.not_mem_nil, List.nodup_nil⟩, fun a ha c hc e => by
      rw [List.mem_singleton.mp hc] at e
      subst e
      exact hn ha⟩
  · rcases List.mem_append.mp hx with hx | hx
    · exact h.ok x hx
    · rw [List.mem_singleton.mp hx]; exact ho

theorem sc__law_states : FnScope ["rows", "modu", "found", "k", "known", "at", "state"] ["rows"] (defScope s__law_states) := ⟨rfl, rfl, rfl, by decide +kernel, rfl, by decide +kernel, by decide +kernel⟩
theorem ok__law_states (E : En K mg) (G__law_followers : Good P w K mg base CX0 2 "_law_followers" ["rows", "state", "modu"] (sp__law_followers K)) (G__law_modulus : Good P w K mg base CX0 1 "_law_modulus" ["rows"] (sp__law_modulus K)) : Good P w K mg base CX0 3 "_law_states" ["rows"] (sp__law_states K) := by
  obtain ⟨fd, F⟩ := E.says.def_ 27 (d := d__law_states) rfl
  refine ⟨fd, ?_, F.bindsN fun _ _ _ _ _ _ us hl => match us, hl with | [_], _ => rfl, F.kp, E.gl "_law_states"⟩
  refine F.ok sc__law_states (fun vs H Q E' h => ?_) (fun cdv A outer s H vs Q E' hr h => ?_)
  · obtain ⟨a, us, ls, rfl, _⟩ := h; rfl
  · have hu64 := hu64_of hr
    refine ⟨_, PSs.nox (pss_cons (ps_set (i := 1) sc__law_states.nd rfl (by first | exact Or.inl rfl | exact Or.inr rfl) (pe_G G__law_modulus (hr.mono (by decide)) rfl pass0 (pa_cons (pv 0) pa_nil)))
      (pss_cons (ps_setLc (i := 2) (own := [("k", 3)]) (by rfl) sc__law_states.nd rfl rfl (sw_true rfl rfl rfl (by decide +kernel)) (pi_range1 (by rfl) (E.fr "range") (pa_cons (pe_op op_mul (pv 1) (pv 1)) pa_nil)) (blkOk_by (N := ["rows", "modu", "found", "k", "known", "at", "state"]) (sc := defScope s__law_states) (by decide +kernel)) (by exact fun _ _ _ _ _ => (pg_name (i := 3) sc__law_states.nd rfl (by first | exact Or.inl rfl | exact Or.inr rfl))) (by exact fun _ _ _ _ _ => pts_nil) (by exact fun _ _ _ _ _ => (pe_tup (pa_cons pe_int (pa_cons (pe_tup (pa_cons pe_int (pa_cons pe_int (pa_cons pe_int pa_nil)))) (pa_cons (pe_tup (pa_cons (pe_op op_fdiv (pe_callTy call_int1 (by rfl) (E.fr "int") (by decide +kernel) (pa_cons (pv 3) pa_nil)) (pv 1)) (pa_cons (pe_op op_mod (pe_callTy call_int1 (by rfl) (E.fr "int") (by decide +kernel) (pa_cons (pv 3) pa_nil)) (pv 1)) pa_nil))) pa_nil))))))
      (pss_cons (ps_par (i := 4) (j := 5) rfl sc__law_states.nd rfl rfl (by decide) rfl rfl (pa_cons (pe_callTy (show CallR _ _ (rDictN P w K) from call_dictN rfl hu64) (by rfl) (E.fr "dict") (by decide +kernel) (pa_cons (pe_lc (own := [("state", 6)]) (by rfl) sc__law_states.nd (pi_list (pv 2)) (blkOk_by (N := ["rows", "modu", "found", "k", "known", "at", "state"]) (sc := defScope s__law_states) (by decide +kernel)) (by exact fun _ _ _ _ _ => (pg_name (i := 6) sc__law_states.nd rfl (by first | exact Or.inl rfl | exact Or.inr rfl))) (by exact fun _ _ _ _ _ => pts_nil) (by exact fun _ _ _ _ _ => (pe_tup (pa_cons (pv 6) (pa_cons pe_bl pa_nil))))) pa_nil)) (pa_cons pe_int pa_nil)) rfl)
      (pss_cons (ps_while PassesOwn.never (pt_cmpR op_lt (pv 5) (pe_callB call_len_seq (by rfl) (E.fr "len") (by decide +kernel) (pa_cons (pv 2) pa_nil)) (nomark _))
        (pss_cons (ps_for PassesOwn.never rfl (pi_list (pe_G G__law_followers (hr.mono (by decide)) rfl pass0 (pa_cons (pv 0) (pa_cons (pe_ix ix_list (pv 2) (pv 5) (fun _ _ => rfl)) (pa_cons (pv 1) pa_nil))))) (pg_name (i := 6) sc__law_states.nd rfl (by first | exact Or.inl rfl | exact Or.inr rfl))
        (pss_one (ps_if (pt_cmp (show PC _ _ _ _ (tDInN P w K true _ _) from pc_dnotinN hu64 (pv 6) (pv 4)))
        (pss_cons (show PS _ _ (sDPutN P w K _ _ _) from ps_dputN hu64 (pv 4) (pv 6) pe_bl rfl)
      (pss_one (ps_expr (pe_bm PySem.F.plainAttrs_list PySem.F.slot_list_append PySem.F.type_list_append mt_append (pv 2) (pa_cons (pv 6) pa_nil)))))
        pss_nil)))
      (pss_one (ps_set (i := 5) sc__law_states.nd rfl (by first | exact Or.inl rfl | exact Or.inr rfl) (pe_op op_add (pv 5) pe_int)))))
      (pss_one (ps_ret (pv 2))))))), ?_⟩
    obtain ⟨a, us0, ls, rfl, hL, hA, hok, hn0, hn, k⟩ := h
    have z2 : 2 ≤ sizeLine := by decide
    have z3 : 3 ≤ sizeLine := by decide
    -- modu
    refine ⟨_, rfl, a, us0, ls, ls.length, rfl, hL, hA, hok, fun m hm => ?_⟩
    have m0 : 0 < m := by omega
    have m6 : m ≤ 6 := by omega
    -- found
    refine ⟨_, rfl, _, rfl, _, _, rfl, rfl, .inl ⟨by omega, by omega⟩, ((m * m : Nat) : Int), rfl, (by have : m * m ≤ 6 * 6 := Nat.mul_le_mul m6 m6; omega), (by have : m * m ≤ 6 * 6 := Nat.mul_le_mul m6 m6; omega), fun l hl => ?_⟩
    have hmm : m * m ≤ 36 := Nat.mul_le_mul m6 m6
    refine lc_range (n := m * m) (fun i H' => Same H H' ∧ ∃ us : List V, H' l = some (.lst us) ∧ DpAll K H' us (((List.range i).map (st0 m)).map S9.d)) ⟨same_new hl, [], upd_same, .nil⟩ ?_ ?_
    · rintro i H1 hi ⟨e1, us, hU, hD⟩
      refine ⟨rfl, z3, fun p1 hp1 => ?_⟩
      have f1 := same_new (o := .tup [V.int 0, .int 0, .int 0]) hp1
      refine ⟨_, rfl, .inl ⟨_, rfl, _, rfl, _, _, rfl, rfl, ⟨by omega, by omega⟩, _, rfl, .inl ⟨_, rfl, _, rfl, _, _, rfl, rfl, (by show (0 : Int) < (m : Int); omega), z2, fun p2 hp2 => ⟨z3, fun p3 hp3 => ?_⟩⟩⟩⟩
      have ei : (0 : Int) + (i : Int) = (i : Int) := Int.zero_add _
      rw [ei] at hp3 ⊢
      have f2 := same_new (o := .tup [V.int ((i : Int) / (m : Int)), .int ((i : Int) % (m : Int))]) hp2
      have f3 := same_new (o := .tup [V.int 0, .ref p1, .ref p2]) hp3
      have new : Dp K (upd (upd (upd H1 p1 (.tup [V.int 0, .int 0, .int 0])) p2 (.tup [V.int ((i : Int) / (m : Int)), .int ((i : Int) % (m : Int))])) p3 (.tup [V.int 0, .ref p1, .ref p2])) (.ref p3) (st0 m i).d :=
        .tup (SqT.of upd_same) (.cons (.int _) (.cons (.tup (SqT.of ((f2.trans f3) _ _ upd_same)) (.cons (.int _) (.cons (.int _) (.cons (.int _) .nil)))) (.cons (.tup (SqT.of (f3 _ _ upd_same)) (.cons (.int _) (.cons (.int _) .nil))) .nil)))
      have e13 := f1.trans (f2.trans f3)
      have ul : us.length = i := by
        have := DpAll.length hD
        rw [List.length_map, List.length_map, List.length_range] at this
        exact this
      refine ⟨us, e13 _ _ hU, szl (by omega), same_mut (e1.trans e13) hl, us ++ [.ref p3], upd_same, ?_⟩
      refine Dp.tupXs (.putL (e13 _ _ hU)) (s9_nls _) ?_
      rw [List.range_succ, List.map_append, List.map_append]
      exact DpAll.append (Dp.sameAll e13 hD) (.cons new .nil)
    rintro H1 ⟨e1, us, hU, hD⟩
    obtain ⟨as, rfl, hal, hkey⟩ := refs_of hD
    have lss : ((List.range (m * m)).map (st0 m)).length = m * m := by rw [List.length_map, List.length_range]
    rw [lss] at hal
    -- known, at
    refine ⟨_, rfl, l, rfl, ⟨_, SqL.of hU⟩, fun D hD0 => ?_⟩
    have hDl : D ≠ l := fun z => by rw [z, hU] at hD0; cases hD0
    refine lc_list (K := K) (a := l) (xs := as.map V.ref) (fun i H' => Same H1 H' ∧ ∃ ts : List Addr, H' D = some (.lst (ts.map V.ref)) ∧ ts.length = i ∧ ∀ (j : Nat) t, ts[j]? = some t → ∃ z, (as.map V.ref)[j]? = some z ∧ H' t = some (.tup [z, .bl true])) ⟨same_new hD0, [], upd_same, rfl, fun j t h => by cases h⟩ (fun _ H' _ q => SqL.of (q.1 _ _ hU)) ?_ ?_
    · rintro i z H2 hz ⟨e2, ts, hT, htl, hts⟩
      refine ⟨rfl, _, rfl, z2, fun t ht => ?_⟩
      have f1 := same_new (o := .tup [z, V.bl true]) ht
      have hT1 := f1 _ _ hT
      have hi : i < as.length := by
        have := (List.getElem?_eq_some_iff.mp hz).1
        rw [List.length_map] at this
        exact this
      have tp := TupX.putL (o := .lst ((ts ++ [t]).map V.ref)) hT1
      refine ⟨_, hT1, by rw [List.length_map]; exact szl (by omega), ?_, ts ++ [t], ?_, by rw [List.length_append, htl]; rfl, fun j t' hj => ?_⟩
      · exact same_mut (e2.trans f1) hD0
      · rw [upd_same, List.map_append]
        rfl
      · have hh : (upd H2 t (.tup [z, V.bl true])) t = some (.tup [z, V.bl true]) := upd_same
        rw [List.map_append] at tp
        by_cases c : j < ts.length
        · rw [List.getElem?_append_left c] at hj
          obtain ⟨y, h1, h2⟩ := hts j t' hj
          exact ⟨y, h1, tp _ _ (f1 _ _ h2) trivial⟩
        · have hj2 := (List.getElem?_eq_some_iff.mp hj).1
          rw [List.length_append] at hj2
          have ej : j = ts.length := by
            have : ([t] : List Addr).length = 1 := rfl
            omega
          subst ej
          rw [List.getElem?_append_right (Nat.le_refl _), Nat.sub_self] at hj
          cases hj
          rw [htl]
          exact ⟨z, hz, tp _ _ hh trivial⟩
    rintro H2 ⟨e2, ts, hT, htl, hts⟩
    rw [List.length_map] at htl
    have hkey2 : ∀ q ∈ ((List.range (m * m)).map (st0 m)).zip as, KeyA K H2 q.1.key q.2 := fun q hq => (hkey q hq).tupX (.of e2)
    refine ⟨D, ts, (((List.range (m * m)).map (st0 m)).zip as).map fun q => (q.1.key, q.2, V.bl true), rfl, SqL.of hT, paired_of ?_ (fun j t p ht hp => ?_), fun p hp => ?_, fun d hd => ?_⟩
    · rw [List.length_map, List.length_zip, lss, hal, Nat.min_self]
      omega
    · obtain ⟨z, h1, h2⟩ := hts j t ht
      rw [List.getElem?_map] at h1 hp
      obtain ⟨q, hq, rfl⟩ := Option.map_eq_some_iff.mp hp
      obtain ⟨a', ha', rfl⟩ := Option.map_eq_some_iff.mp h1
      have hq2 := List.getElem?_zip_eq_some.mp hq
      rw [hq2.2] at ha'
      cases ha'
      exact SqT.of h2
    · obtain ⟨q, hq, rfl⟩ := List.mem_map.mp hp
      exact hkey2 q hq
    have f3 := same_new (o := dN P w d (mergeN [] ((((List.range (m * m)).map (st0 m)).zip as).map fun q => (q.1.key, q.2, V.bl true)))) hd
    have kn0 : Knw K H2 [] [] := ⟨fun p hp => absurd hp List.not_mem_nil, fun s => rfl, Nat.le_refl _⟩
    have kn := Knw.merge (v := V.bl true) (((List.range (m * m)).map (st0 m)).zip as) kn0 hkey2
    rw [List.map_fst_zip (by omega), List.nil_append] at kn
    have e12 := e2.trans f3
    have W0 : StsW K P w H (upd H2 d (dN P w d (mergeN [] ((((List.range (m * m)).map (st0 m)).zip as).map fun q => (q.1.key, q.2, V.bl true))))) l d ls.length m (as.map V.ref) ((List.range (m * m)).map (st0 m)) (mergeN [] ((((List.range (m * m)).map (st0 m)).zip as).map fun q => (q.1.key, q.2, V.bl true))) := by
      refine ⟨e1.trans e12, e12 _ _ hU, Dp.sameAll e12 hD, st0_nodup m0 _, fun s hs => ?_, upd_same, kn.tupX (.of f3)⟩
      obtain ⟨i, hi, rfl⟩ := List.mem_map.mp hs
      have hi := List.mem_range.mp hi
      exact ⟨hn0, rfl, fun v hv => by
        have hv : v ∈ [0, 0, 0] := hv
        simp at hv
        omega, Nat.div_lt_of_lt_mul hi, Nat.mod_lt _ m0⟩
    have hdH : H d = none := by
      cases q : H d with
      | none => rfl
      | some o =>
        rw [(e1.trans e2) _ _ q] at hd
        cases hd
    generalize mergeN [] ((((List.range (m * m)).map (st0 m)).zip as).map fun q => (q.1.key, q.2, V.bl true)) = kvs0 at *
    generalize (List.range (m * m)).map (st0 m) = ss0 at *
    generalize upd H2 d (dN P w d kvs0) = H3 at *
    clear kn kn0 hkey2 hkey hts hT hD hU e12 f3 hd e2 e1 hD0 htl hDl
    generalize as.map V.ref = us at *
    -- while at < len(found)
    refine ⟨_, _, rfl, ?_⟩
    refine ⟨fun μ σ H' => ∃ (i : Nat) (us : List V) (ss : List S9) (kvs : List EnN) (s6 : Option V), μ = ls.length * 2304 - i ∧ i ≤ ss.length ∧ σ = [some (.ref a), some (.int (m : Int)), some (.ref l), none, some (.ref d), some (.int (i : Int)), s6] ∧ StsW K P w H H' l d ls.length m us ss kvs, ⟨ls.length * 2304, 0, us, ss0, kvs0, _, rfl, Nat.zero_le _, rfl, W0⟩, ?_⟩
    rintro μ σ H4 ⟨i, us, ss, kvs, s6, rfl, hi, rfl, W⟩
    obtain ⟨ul, sl⟩ := W.len m6
    refine ⟨_, rfl, _, rfl, l, _, rfl, .inl (SqL.of W.fl), _, _, rfl, rfl, _, rfl, ?_⟩
    by_cases c : i < us.length
    rotate_left
    · exact ite_f (decide_eq_false (by omega)) ⟨_, rfl, k l us ss H4 W.sm W.fl W.dp⟩
    refine ite_t (decide_eq_true (by omega)) ⟨fun σ' H'' => ∃ μ', μ' < ls.length * 2304 - i ∧ ∃ (i : Nat) (us : List V) (ss : List S9) (kvs : List EnN) (s6 : Option V), μ' = ls.length * 2304 - i ∧ i ≤ ss.length ∧ σ' = [some (.ref a), some (.int (m : Int)), some (.ref l), none, some (.ref d), some (.int (i : Int)), s6] ∧ StsW K P w H H'' l d ls.length m us ss kvs, fun _ _ q => q, ?_⟩
    -- for state in _law_followers(rows, found[at], modu)
    have hz : us[i]? = some us[i] := List.getElem?_eq_getElem c
    obtain ⟨dd, hdd, hv⟩ := DpAll.get W.dp hz
    rw [List.getElem?_map] at hdd
    obtain ⟨s, hs, rfl⟩ := Option.map_eq_some_iff.mp hdd
    refine ⟨_, rfl, _, rfl, _, rfl, l, _, _, _, rfl, rfl, SqL.of W.fl, atI_nat hz, _, rfl, a, us0, ls, us[i], s, m, rfl, Same.seq W.sm hL, Dp.sameAll W.sm hA, hok, by omega, hv, W.ok s (List.mem_of_getElem? hs), m0, m6, fun fl ws fs H5 e5 hfn hF hFd hFo hFl => ?_⟩
    have W5 := W.grow e5
    refine ⟨fl, rfl, ⟨_, SqL.of hF⟩, ?_⟩
    have fws := DpAll.length hFd
    rw [List.length_map] at fws
    have hfl : fl ≠ l := fun z => by rw [z, W.fl] at hfn; cases hfn
    refine for_list (K := K) (a := fl) (xs := ws) (fun j σ H' => ∃ (us' : List V) (ss' : List S9) (kvs : List EnN) (s6 : Option V), σ = [some (.ref a), some (.int (m : Int)), some (.ref l), none, some (.ref d), some (.int (i : Int)), s6] ∧ i < ss'.length ∧ TupX H5 H' ∧ H' fl = some (.lst ws) ∧ StsW K P w H H' l d ls.length m us' ss' kvs) ⟨us, ss, kvs, s6, rfl, by omega, TupX.refl _, hF, W5⟩ (fun _ σ H' _ ⟨_, _, _, _, _, _, _, h, _⟩ => SqL.of h) ?_ ?_
    · rintro j z σ H6 hz ⟨us', ss', kvs', s6, rfl, hi6, t6, hF6, W6⟩
      obtain ⟨dd, hdd, hv6⟩ := DpAll.get hFd hz
      rw [List.getElem?_map] at hdd
      obtain ⟨s', hs', rfl⟩ := Option.map_eq_some_iff.mp hdd
      have hv6 := Dp.tupX t6 s'.nl hv6
      obtain ⟨b, rfl⟩ := S9.at_ref hv6
      obtain ⟨ul6, sl6⟩ := W6.len m6
      have kl := W6.kn.len
      refine ⟨_, rfl, _, rfl, d, b, kvs', s'.key, rfl, rfl, W6.fd, W6.kn.at_, S9.keyA hv6, _, rfl, ?_⟩
      rw [if_pos rfl, W6.kn.has]
      by_cases hm' : s' ∈ ss'
      · rw [decide_eq_true hm']
        exact ite_f rfl ⟨us', ss', kvs', _, rfl, hi6, t6, hF6, W6⟩
      rw [decide_eq_false hm']
      obtain ⟨p1, p2, p3⟩ := W6.push hl hdH hv6 (hFo s' (List.mem_of_getElem? hs')) hm'
      have nfd : fl ≠ d := fun z => by
        rw [z, W6.fd] at hF6
        exact dN_lst (Option.some.inj hF6)
      refine ite_t rfl ⟨_, rfl, _, rfl, d, b, kvs', s'.key, rfl, rfl, W6.fd, W6.kn.at_, S9.keyA hv6, szl (by omega), ?_⟩
      refine ⟨_, rfl, .inl ⟨rfl, _, SqL.of p1⟩, _, rfl, l, us', _, rfl, rfl, p1, szl (by omega), ?_⟩
      exact ⟨_, _, _, _, rfl, by rw [List.length_append]; omega, t6.trans p2, by rw [upd_ne hfl, upd_ne nfd]; exact hF6, p3⟩
    rintro σ H6 ⟨us', ss', kvs', s6, rfl, hi6, t6, hF6, W6⟩
    obtain ⟨ul6, sl6⟩ := W6.len m6
    refine ⟨_, rfl, _, _, rfl, rfl, _, ?_, i + 1, us', ss', kvs', _, rfl, by omega, rfl, W6⟩
    omega

/-! ### _law_test -/
/-- some test -/
def sp__law_test (K : PySem.W.Frag) : Sp := fun vs H Q _ => ∃ (b : Addr) (r : Bool), vs = [.ref b, .bl r] ∧ Bag H b ∧ ∀ (v : V) (t : Tst) (H' : Hp), Dp K H' v t.d → t.Ok → Bag H' b → Kp b H H' → Q v H'
theorem pickAx {r : Int} (h0 : 0 ≤ r) (h1 : r < 2) : ∃ w, atI [V.str "x", V.str "y"] r = some (.str (axS w)) := by
  have : r = 0 ∨ r = 1 := by omega
  rcases this with rfl | rfl
  · exact ⟨true, rfl⟩
  · exact ⟨false, rfl⟩
theorem pickV {r : Int} (h0 : 0 ≤ r) (h1 : r < 3) : ∃ v : V3, atI [V.str "a", V.str "b", V.str "c"] r = some (.str v.s) := by
  have : r = 0 ∨ r = 1 ∨ r = 2 := by omega
  rcases this with rfl | rfl | rfl
  · exact ⟨.a, rfl⟩
  · exact ⟨.b, rfl⟩
  · exact ⟨.c, rfl⟩
theorem pickO {r : Int} (h0 : 0 ≤ r) (h1 : r < 2) : ∃ o : O3, atI [V.str "equal", V.str "more"] r = some (.str o.s) := by
  have : r = 0 ∨ r = 1 := by omega
  rcases this with rfl | rfl
  · exact ⟨.equal, rfl⟩
  · exact ⟨.more, rfl⟩

theorem sc__law_test : FnScope ["bag", "rests", "kind", "axis", "size"] ["bag", "rests"] (defScope s__law_test) := ⟨rfl, rfl, rfl, by decide +kernel, rfl, by decide +kernel, by decide +kernel⟩
theorem ok__law_test (E : En K mg) (G__law_pull : Good P w K mg base CX0 1 "_law_pull" ["bag", "amount"] (sp__law_pull K)) : Good P w K mg base CX0 2 "_law_test" ["bag", "rests"] (sp__law_test K) := by
  obtain ⟨fd, F⟩ := E.says.def_ 28 (d := d__law_test) rfl
  refine ⟨fd, ?_, F.bindsN fun _ _ _ _ _ _ us hl => match us, hl with | [_, _], _ => rfl, F.kp, E.gl "_law_test"⟩
  refine F.ok sc__law_test (fun vs H Q E' h => ?_) (fun cdv A outer s H vs Q E' hr h => ?_)
  · obtain ⟨b, r, rfl, _⟩ := h; rfl
  · have hu64 := hu64_of hr
    refine ⟨_, PSs.nox (pss_cons (ps_set (i := 2) sc__law_test.nd rfl (by first | exact Or.inl rfl | exact Or.inr rfl) (pe_G G__law_pull (hr.mono (by decide)) rfl pass0 (pa_cons (pv 0) (pa_cons (pe_ifExp (pt_val (pv 1)) pe_int pe_int) pa_nil))))
      (pss_cons (ps_set (i := 3) sc__law_test.nd rfl (by first | exact Or.inl rfl | exact Or.inr rfl) (pe_ix ix_list (pe_lst (pa_cons pe_str (pa_cons pe_str pa_nil))) (pe_G G__law_pull (hr.mono (by decide)) rfl pass0 (pa_cons (pv 0) (pa_cons pe_int pa_nil))) (fun _ _ => rfl)))
      (pss_cons (ps_if (pt_cmpR op_lt (pv 2) pe_int (nomark _))
        (pss_one (ps_ret (pe_tup (pa_cons pe_str pa_nil))))
        pss_nil)
      (pss_cons (ps_if (pt_cmpR op_lt (pv 2) pe_int (nomark _))
        (pss_one (ps_ret (pe_tup (pa_cons (pe_ix ix_list (pe_lst (pa_cons pe_str (pa_cons pe_str pa_nil))) (pe_op op_sub (pv 2) pe_int) (fun _ _ => rfl)) pa_nil))))
        pss_nil)
      (pss_cons (ps_if (pt_cmpR op_eq (pv 2) pe_int (nomark _))
        (pss_one (ps_ret (pe_tup (pa_cons pe_str (pa_cons (pv 3) pa_nil)))))
        pss_nil)
      (pss_cons (ps_if (pt_cmpR op_lt (pv 2) pe_int (nomark _))
        (pss_one (ps_ret (pe_tup (pa_cons pe_str (pa_cons (pe_ix ix_list (pe_lst (pa_cons pe_str (pa_cons pe_str (pa_cons pe_str pa_nil)))) (pe_G G__law_pull (hr.mono (by decide)) rfl pass0 (pa_cons (pv 0) (pa_cons pe_int pa_nil))) (fun _ _ => rfl)) (pa_cons (pe_G G__law_pull (hr.mono (by decide)) rfl pass0 (pa_cons (pv 0) (pa_cons pe_int pa_nil))) pa_nil))))))
        pss_nil)
      (pss_cons (ps_set (i := 4) sc__law_test.nd rfl (by first | exact Or.inl rfl | exact Or.inr rfl) (pe_op op_add pe_int (pe_G G__law_pull (hr.mono (by decide)) rfl pass0 (pa_cons (pv 0) (pa_cons pe_int pa_nil)))))
      (pss_one (ps_ret (pe_tup (pa_cons pe_str (pa_cons (pv 3) (pa_cons (pv 4) (pa_cons (pe_G G__law_pull (hr.mono (by decide)) rfl pass0 (pa_cons (pv 0) (pa_cons (pv 4) pa_nil))) pa_nil)))))))))))))), ?_⟩
    obtain ⟨b, r, rfl, B, k⟩ := h
    have z1 : 1 ≤ sizeLine := by decide
    have z2 : 2 ≤ sizeLine := by decide
    have z3 : 3 ≤ sizeLine := by decide
    have z4 : 4 ≤ sizeLine := by decide
    have fin : ∀ (xs : List V) (t : Tst) (H' : Hp) (p : Addr), DpAll K H' xs (.str t.w :: t.ds) → t.Ok → Bag H' b → Kp b H H' → H' p = none → Q (.ref p) (upd H' p (.tup xs)) := fun xs t H' p hA ho B' k' hp =>
      k _ t _ (.tup (SqT.of upd_same) (Dp.sameAll (same_new hp) hA)) ho (B'.keep (same_new hp)) (k'.new hp)
    refine ⟨_, rfl, _, rfl, r, rfl, ?_⟩
    cases r
    rotate_left
    refine ite_t rfl ⟨b, 8, rfl, B, by decide, by decide, fun r0 H1 a0 a1 B1 k1 => ?_⟩
    rotate_left
    refine ite_f rfl ⟨b, 7, rfl, B, by decide, by decide, fun r0 H1 a0 a1 B1 k1 => ?_⟩
    all_goals
      -- axis
      refine ⟨z2, fun l hl => ⟨_, rfl, b, 2, rfl, B1.keep (same_new hl), by decide, by decide, fun r H2 ra rb B2 k2 => ?_⟩⟩
      obtain ⟨w, hw⟩ := pickAx ra rb
      refine ⟨l, _, _, _, rfl, rfl, SqL.of (k2 _ _ (B1.ne hl) upd_same), hw, ?_⟩
      have kk : Kp b H H2 := (k1.new hl).trans k2
      clear hl hw ra rb
      refine ⟨_, rfl, _, _, rfl, rfl, _, rfl, ?_⟩
      refine ite2 (fun _ => ⟨z1, fun p hp => fin [.str "less"] (.ord .less) H2 p (.cons (.str _) .nil) trivial B2 kk hp⟩) (fun c2 => ?_)
      have c2 : ¬ r0 < 2 := fun z => c2 (decide_eq_true z)
      refine ⟨_, rfl, _, _, rfl, rfl, _, rfl, ?_⟩
      by_cases c4 : r0 < 4
      · refine ite_t (decide_eq_true c4) ⟨z2, fun l3 hl3 => ?_⟩
        obtain ⟨o, ho⟩ := pickO (r := r0 - 2) (by omega) (by omega)
        refine ⟨_, rfl, _, _, rfl, rfl, l3, _, _, _, rfl, rfl, SqL.of upd_same, ho, z1, fun p hp => ?_⟩
        exact fin [.str o.s] (.ord o) _ p (.cons (.str _) .nil) trivial (B2.keep (same_new hl3)) (kk.new hl3) hp
      refine ite_f (decide_eq_false c4) ?_
      refine ⟨_, rfl, rfl, _, rfl, ?_⟩
      refine ite2 (fun _ => ⟨_, rfl, z2, fun p hp => fin [.str "zero", .str (axS w)] (.zero w) H2 p (.cons (.str _) (.cons (.str _) .nil)) trivial B2 kk hp⟩) (fun _ => ?_)
      refine ⟨_, rfl, _, _, rfl, rfl, _, rfl, ?_⟩
      refine ite2 (fun _ => ?_) (fun _ => ?_)
      · refine ⟨z3, fun l3 hl3 => ⟨_, rfl, b, 3, rfl, B2.keep (same_new hl3), by decide, by decide, fun r3 H3 ca cb B3 k3 => ?_⟩⟩
        obtain ⟨v, hv⟩ := pickV ca cb
        refine ⟨l3, _, _, _, rfl, rfl, SqL.of (k3 _ _ (B2.ne hl3) upd_same), hv, ?_⟩
        refine ⟨_, rfl, b, 4, rfl, B3, by decide, by decide, fun r4 H4 da db B4 k4 => ⟨z3, fun p hp => ?_⟩⟩
        obtain ⟨n, rfl⟩ := Int.eq_ofNat_of_zero_le da
        exact fin [.str "holds", .str v.s, .int (n : Int)] (.holds v n) H4 p (.cons (.str _) (.cons (.str _) (.cons (.int _) .nil))) (by show n ≤ 3; omega) B4 (((kk.new hl3).trans k3).trans k4) hp
      refine ⟨_, rfl, b, 2, rfl, B2, by decide, by decide, fun r3 H3 ca cb B3 k3 => ⟨_, _, rfl, rfl, ?_⟩⟩
      obtain ⟨s, hs, hs2⟩ : ∃ s : Nat, 2 + r3 = (s : Int) ∧ (s = 2 ∨ s = 3) := ⟨(2 + r3).toNat, by omega, by omega⟩
      dsimp only
      rw [hs]
      refine ⟨_, rfl, _, rfl, _, rfl, _, rfl, b, s, rfl, B3, by omega, by omega, fun r4 H4 da db B4 k4 => ⟨z4, fun p hp => ?_⟩⟩
      obtain ⟨n, rfl⟩ := Int.eq_ofNat_of_zero_le da
      exact fin [.str "rest", .str (axS w), .int (s : Int), .int (n : Int)] (.rest w s n) H4 p (.cons (.str _) (.cons (.str _) (.cons (.int _) (.cons (.int _) .nil)))) ⟨hs2, by omega⟩ B4 ((kk.trans k3).trans k4) hp

/-! ### _law_line -/
/-- some line -/
def sp__law_line (K : PySem.W.Frag) : Sp := fun vs H Q _ => ∃ (b : Addr) (n : Nat) (ks : Str), vs = [.ref b, .int (n : Int), .str ks] ∧ Bag H b ∧ n ≤ 1000 ∧ ∀ (v : V) (l : Lin) (H' : Hp), Dp K H' v l.d → l.Ok n → Bag H' b → Kp b H H' → Q v H'
theorem pickS {r : Int} (h0 : 0 ≤ r) (h1 : r < 3) : ∃ z : Str, atI [V.str "done", V.str "farthest", V.str "below"] r = some (.str z) ∧ nameB z = true ∧ z ≠ "end" := by
  have : r = 0 ∨ r = 1 ∨ r = 2 := by omega
  rcases this with rfl | rfl | rfl
  · exact ⟨_, rfl, by decide +kernel, by decide +kernel⟩
  · exact ⟨_, rfl, by decide +kernel, by decide +kernel⟩
  · exact ⟨_, rfl, by decide +kernel, by decide +kernel⟩

theorem sc__law_line : FnScope ["bag", "many", "kinds", "pick", "axis", "spot", "test"] ["bag", "many", "kinds"] (defScope s__law_line) := ⟨rfl, rfl, rfl, by decide +kernel, rfl, by decide +kernel, by decide +kernel⟩
theorem ok__law_line (E : En K mg) (G__law_pull : Good P w K mg base CX0 1 "_law_pull" ["bag", "amount"] (sp__law_pull K)) (G__law_test : Good P w K mg base CX0 2 "_law_test" ["bag", "rests"] (sp__law_test K)) : Good P w K mg base CX0 3 "_law_line" ["bag", "many", "kinds"] (sp__law_line K) := by
  obtain ⟨fd, F⟩ := E.says.def_ 29 (d := d__law_line) rfl
  refine ⟨fd, ?_, F.bindsN fun _ _ _ _ _ _ us hl => match us, hl with | [_, _, _], _ => rfl, F.kp, E.gl "_law_line"⟩
  refine F.ok sc__law_line (fun vs H Q E' h => ?_) (fun cdv A outer s H vs Q E' hr h => ?_)
  · obtain ⟨b, n, ks, rfl, _⟩ := h; rfl
  · have hu64 := hu64_of hr
    refine ⟨_, PSs.nox (pss_cons (ps_set (i := 3) sc__law_line.nd rfl (by first | exact Or.inl rfl | exact Or.inr rfl) (pe_G G__law_pull (hr.mono (by decide)) rfl pass0 (pa_cons (pv 0) (pa_cons pe_int pa_nil))))
      (pss_cons (ps_par (i := 4) (j := 5) rfl sc__law_line.nd rfl rfl (by decide) rfl rfl (pa_cons (pe_ix ix_list (pe_lst (pa_cons pe_str (pa_cons pe_str pa_nil))) (pe_G G__law_pull (hr.mono (by decide)) rfl pass0 (pa_cons (pv 0) (pa_cons pe_int pa_nil))) (fun _ _ => rfl)) (pa_cons (pe_G G__law_pull (hr.mono (by decide)) rfl pass0 (pa_cons (pv 0) (pa_cons (pe_op op_add (pv 1) pe_int) pa_nil))) pa_nil)) rfl)
      (pss_cons (ps_if (pt_cmpR op_lt (pv 3) pe_int (nomark _))
        (pss_one (ps_ret (pe_tup (pa_cons pe_str (pa_cons (pv 4) pa_nil)))))
        pss_nil)
      (pss_cons (ps_if (pt_cmpR op_lt (pv 3) pe_int (nomark _))
        (pss_one (ps_ret (pe_tup (pa_cons pe_str (pa_cons (pv 4) pa_nil)))))
        pss_nil)
      (pss_cons (ps_if (pt_cmpR op_lt (pv 3) pe_int (nomark _))
        (pss_cons (ps_set (i := 6) sc__law_line.nd rfl (by first | exact Or.inl rfl | exact Or.inr rfl) (pe_G G__law_test (hr.mono (by decide)) rfl pass0 (pa_cons (pv 0) (pa_cons (pe_cmpR op_in_sign pe_str (pv 2) (by rfl)) pa_nil))))
      (pss_one (ps_ret (pe_tup (pa_cons pe_str (pa_cons (pe_ifExp (PW.pt (pw_or (pt_cmpR op_ne (pe_ix ix_tup (pv 6) pe_int (fun _ _ => rfl)) pe_str (nomark _)) (pw_or1 (pt_cmpR op_in_sign pe_str (pv 2) (by rfl))))) (pv 6) (pe_tup (pa_cons pe_str pa_nil))) (pa_cons (pv 5) pa_nil)))))))
        pss_nil)
      (pss_cons (ps_if (pt_cmpR op_eq (pv 3) pe_int (nomark _))
        (pss_one (ps_ret (pe_ifExp (pt_cmpR op_in_sign pe_str (pv 2) (by rfl)) (pe_tup (pa_cons pe_str (pa_cons (pv 5) pa_nil))) (pe_tup (pa_cons pe_str (pa_cons (pv 4) pa_nil))))))
        pss_nil)
      (pss_cons (ps_if (pt_cmpR op_eq (pv 3) pe_int (nomark _))
        (pss_one (ps_ret (pe_tup (pa_cons pe_str (pa_cons (pe_ix ix_list (pe_lst (pa_cons pe_str (pa_cons pe_str (pa_cons pe_str pa_nil)))) (pe_G G__law_pull (hr.mono (by decide)) rfl pass0 (pa_cons (pv 0) (pa_cons pe_int pa_nil))) (fun _ _ => rfl)) pa_nil)))))
        pss_nil)
      (pss_cons (ps_if (PW.pt (pw_and (pt_cmpR op_eq (pv 3) pe_int (nomark _)) (pw_and1 (pt_cmpR op_in_sign pe_str (pv 2) (by rfl)))))
        (pss_one (ps_ret (pe_tup (pa_cons pe_str (pa_cons (pe_ix ix_list (pe_lst (pa_cons pe_str (pa_cons pe_str (pa_cons pe_str pa_nil)))) (pe_G G__law_pull (hr.mono (by decide)) rfl pass0 (pa_cons (pv 0) (pa_cons pe_int pa_nil))) (fun _ _ => rfl)) (pa_cons (pe_G G__law_pull (hr.mono (by decide)) rfl pass0 (pa_cons (pv 0) (pa_cons pe_int pa_nil))) pa_nil))))))
        pss_nil)
      (pss_one (ps_ret (pe_tup (pa_cons pe_str (pa_cons (pv 5) pa_nil))))))))))))), ?_⟩
    obtain ⟨b, n, ks, rfl, B, hn, k⟩ := h
    have z1 : 1 ≤ sizeLine := by decide
    have z2 : 2 ≤ sizeLine := by decide
    have z3 : 3 ≤ sizeLine := by decide
    have fin : ∀ (xs : List V) (l : Lin) (H' : Hp) (p : Addr), DpAll K H' xs (.str l.w :: l.ds) → l.Ok n → Bag H' b → Kp b H H' → H' p = none → Q (.ref p) (upd H' p (.tup xs)) := fun xs l H' p hA ho B' k' hp =>
      k _ l _ (.tup (SqT.of upd_same) (Dp.sameAll (same_new hp) hA)) ho (B'.keep (same_new hp)) (k'.new hp)
    refine ⟨_, rfl, b, 12, rfl, B, by decide, by decide, fun r0 H1 a0 a1 B1 k1 => ?_⟩
    -- axis, spot
    refine ⟨z2, fun l hl => ⟨_, rfl, b, 2, rfl, B1.keep (same_new hl), by decide, by decide, fun r H2 ra rb B2 k2 => ?_⟩⟩
    obtain ⟨w, hw⟩ := pickAx ra rb
    refine ⟨l, _, _, _, rfl, rfl, SqL.of (k2 _ _ (B1.ne hl) upd_same), hw, ?_⟩
    have kk : Kp b H H2 := (k1.new hl).trans k2
    clear hl hw ra rb k1 k2
    refine ⟨_, rfl, _, rfl, _, _, rfl, rfl, b, (n : Int) + 1, rfl, B2, by omega, by omega, fun r2 H3 sa sb B3 k3 => ⟨_, _, rfl, ?_⟩⟩
    obtain ⟨sp, rfl⟩ := Int.eq_ofNat_of_zero_le sa
    have hsp : sp ≤ n := by omega
    have kk := kk.trans k3
    clear sa sb k3
    refine ⟨_, rfl, _, _, rfl, rfl, _, rfl, ?_⟩
    refine ite2 (fun _ => ⟨_, rfl, z2, fun p hp => fin [.str "add", .str (axS w)] (.add w) H3 p (.cons (.str _) (.cons (.str _) .nil)) trivial B3 kk hp⟩) (fun _ => ?_)
    refine ⟨_, rfl, _, _, rfl, rfl, _, rfl, ?_⟩
    refine ite2 (fun _ => ⟨_, rfl, z2, fun p hp => fin [.str "take", .str (axS w)] (.take w) H3 p (.cons (.str _) (.cons (.str _) .nil)) trivial B3 kk hp⟩) (fun _ => ?_)
    refine ⟨_, rfl, _, _, rfl, rfl, _, rfl, ?_⟩
    refine ite2 (fun _ => ?_) (fun _ => ?_)
    · -- if
      refine ⟨_, rfl, _, rfl, 114, ks, rfl, rfl, b, _, rfl, B3, fun v t H4 hv ht B4 k4 => ?_⟩
      have kk := kk.trans k4
      obtain ⟨a, us, rfl, hS, hA⟩ := Dp.tst hv
      refine ⟨_, rfl, a, _, _, _, rfl, rfl, hS, at_0 _ _, rfl, _, rfl, ?_⟩
      have keep : ∀ p, H4 p = none → Q (.ref p) (upd H4 p (.tup [.str "if", .ref a, .int (sp : Int)])) := fun p hp => fin [.str "if", .ref a, .int (sp : Int)] (.test t sp) H4 p (.cons (.str _) (.cons hv (.cons (.int _) .nil))) ⟨ht, hsp⟩ B4 kk hp
      have drop : ∀ q, H4 q = none → ∀ p, (upd H4 q (.tup [V.str "more"])) p = none → Q (.ref p) (upd (upd H4 q (.tup [V.str "more"])) p (.tup [.str "if", .ref q, .int (sp : Int)])) := fun q hq p hp =>
        fin [.str "if", .ref q, .int (sp : Int)] (.test (.ord .more) sp) _ p (.cons (.str _) (.cons (.tup (SqT.of upd_same) (.cons (.str _) .nil)) (.cons (.int _) .nil))) ⟨trivial, hsp⟩ (B4.keep (same_new hq)) (kk.new hq) hp
      refine ite2 (fun _ => ⟨_, rfl, _, rfl, z3, keep⟩) (fun _ => ?_)
      refine ⟨_, rfl, 118, ks, rfl, rfl, _, rfl, ?_⟩
      exact ite2 (fun _ => ⟨_, rfl, _, rfl, z3, keep⟩) (fun _ => ⟨z1, fun q hq => ⟨_, rfl, z3, drop q hq⟩⟩)
    refine ⟨_, rfl, rfl, _, rfl, ?_⟩
    refine ite2 (fun _ => ?_) (fun _ => ?_)
    · refine ⟨_, rfl, 99, ks, rfl, rfl, _, rfl, ?_⟩
      exact ite2 (fun _ => ⟨_, rfl, z2, fun p hp => fin [.str "choose", .int (sp : Int)] (.choose sp) H3 p (.cons (.str _) (.cons (.int _) .nil)) hsp B3 kk hp⟩) (fun _ => ⟨_, rfl, z2, fun p hp => fin [.str "take", .str (axS w)] (.take w) H3 p (.cons (.str _) (.cons (.str _) .nil)) trivial B3 kk hp⟩)
    refine ⟨_, rfl, rfl, _, rfl, ?_⟩
    refine ite2 (fun _ => ?_) (fun _ => ?_)
    · refine ⟨z3, fun l3 hl3 => ⟨_, rfl, b, 3, rfl, B3.keep (same_new hl3), by decide, by decide, fun r3 H4 ca cb B4 k4 => ?_⟩⟩
      obtain ⟨z, hz, hz1, hz2⟩ := pickS ca cb
      refine ⟨l3, _, _, _, rfl, rfl, SqL.of (k4 _ _ (B3.ne hl3) upd_same), hz, z2, fun p hp => ?_⟩
      exact fin [.str "stop", .str z] (.stop z) H4 p (.cons (.str _) (.cons (.str _) .nil)) ⟨hz1, hz2⟩ B4 ((kk.new hl3).trans k4) hp
    have last : ∀ p, H3 p = none → Q (.ref p) (upd H3 p (.tup [.str "go", .int (sp : Int)])) := fun p hp => fin [.str "go", .int (sp : Int)] (.go sp) H3 p (.cons (.str _) (.cons (.int _) .nil)) hsp B3 kk hp
    refine ⟨_, rfl, rfl, _, rfl, ?_⟩
    refine ite2 (fun _ => ?_) (fun _ => ⟨_, rfl, z2, last⟩)
    refine ⟨_, rfl, 118, ks, rfl, rfl, _, rfl, ?_⟩
    refine ite2 (fun _ => ?_) (fun _ => ⟨_, rfl, z2, last⟩)
    refine ⟨z3, fun l3 hl3 => ⟨_, rfl, b, 3, rfl, B3.keep (same_new hl3), by decide, by decide, fun r3 H4 ca cb B4 k4 => ?_⟩⟩
    obtain ⟨v, hv⟩ := pickV ca cb
    refine ⟨l3, _, _, _, rfl, rfl, SqL.of (k4 _ _ (B3.ne hl3) upd_same), hv, ?_⟩
    refine ⟨_, rfl, b, 4, rfl, B4, by decide, by decide, fun r4 H5 da db B5 k5 => ⟨z3, fun p hp => ?_⟩⟩
    obtain ⟨m, rfl⟩ := Int.eq_ofNat_of_zero_le da
    exact fin [.str "set", .str v.s, .int (m : Int)] (.set v m) H5 p (.cons (.str _) (.cons (.str _) (.cons (.int _) .nil))) (by show m ≤ 3; omega) B5 (((kk.new hl3).trans k4).trans k5) hp

/-! ### _law_drawn -/
/-- a list of lines, no target beyond its end -/
def sp__law_drawn (K : PySem.W.Frag) : Sp := fun vs H Q _ => ∃ (b : Addr) (n : Nat) (ks : Str), vs = [.ref b, .int (n : Int), .str ks] ∧ Bag H b ∧ 0 < n ∧ n ≤ 60 ∧ ∀ (l : Addr) (us : List V) (ls : List Lin) (H' : Hp), H l = none → H' l = some (.lst us) → DpAll K H' us (ls.map Lin.d) → 0 < ls.length → ls.length ≤ n → (∀ x ∈ ls, x.Ok ls.length) → Bag H' b → Kp b H H' → Q (.ref l) H'

theorem sc__law_drawn : FnScope ["bag", "top_z", "kinds", "many", "found", "k"] ["bag", "top_z", "kinds"] (defScope s__law_drawn) := ⟨rfl, rfl, rfl, by decide +kernel, rfl, by decide +kernel, by decide +kernel⟩
theorem ok__law_drawn (E : En K mg) (G__law_line : Good P w K mg base CX0 3 "_law_line" ["bag", "many", "kinds"] (sp__law_line K)) (G__law_pull : Good P w K mg base CX0 1 "_law_pull" ["bag", "amount"] (sp__law_pull K)) : Good P w K mg base CX0 4 "_law_drawn" ["bag", "top_z", "kinds"] (sp__law_drawn K) := by
  obtain ⟨fd, F⟩ := E.says.def_ 30 (d := d__law_drawn) rfl
  refine ⟨fd, ?_, F.bindsN fun _ _ _ _ _ _ us hl => match us, hl with | [_, _, _], _ => rfl, F.kp, E.gl "_law_drawn"⟩
  refine F.ok sc__law_drawn (fun vs H Q E' h => ?_) (fun cdv A outer s H vs Q E' hr h => ?_)
  · obtain ⟨b, n, ks, rfl, _⟩ := h; rfl
  · have hu64 := hu64_of hr
    refine ⟨_, PSs.nox (pss_cons (ps_set (i := 3) sc__law_drawn.nd rfl (by first | exact Or.inl rfl | exact Or.inr rfl) (pe_op op_add pe_int (pe_G G__law_pull (hr.mono (by decide)) rfl pass0 (pa_cons (pv 0) (pa_cons (pv 1) pa_nil)))))
      (pss_cons (ps_set (i := 4) sc__law_drawn.nd rfl (by first | exact Or.inl rfl | exact Or.inr rfl) (pe_lst pa_nil))
      (pss_cons (ps_for PassesOwn.never rfl (pi_range1 (by rfl) (E.fr "range") (pa_cons (pv 3) pa_nil)) (pg_name (i := 5) sc__law_drawn.nd rfl (by first | exact Or.inl rfl | exact Or.inr rfl))
        (pss_one (ps_expr (pe_bm PySem.F.plainAttrs_list PySem.F.slot_list_append PySem.F.type_list_append mt_append (pv 4) (pa_cons (pe_G G__law_line (hr.mono (by decide)) rfl pass0 (pa_cons (pv 0) (pa_cons (pv 3) (pa_cons (pv 2) pa_nil)))) pa_nil)))))
      (pss_one (ps_ret (pv 4)))))), ?_⟩
    obtain ⟨b, n, ks, rfl, B, h0, h1, k⟩ := h
    have z0 : 0 ≤ sizeLine := by decide
    refine ⟨_, rfl, _, rfl, b, (n : Int), rfl, B, by omega, by omega, fun r0 H1 a0 a1 B1 k1 => ⟨_, _, rfl, rfl, ?_⟩⟩
    obtain ⟨m, hm, m0, m1⟩ : ∃ m : Nat, 1 + r0 = (m : Int) ∧ 0 < m ∧ m ≤ n := ⟨(1 + r0).toNat, by omega, by omega, by omega⟩
    dsimp only
    rw [hm]
    refine ⟨z0, fun l hl => ?_⟩
    have nlb : l ≠ b := B1.ne hl
    have hlH : H l = none := by
      cases q : H l with
      | none => rfl
      | some o =>
        rw [k1 _ _ nlb q] at hl
        cases hl
    obtain ⟨c0, q0, hb0, o0, hc0⟩ := B1.inn
    have ncl : c0 ≠ l := ne_of_none hc0 hl
    refine ⟨_, rfl, _, rfl, by omega, by omega, for_range (lo := 0) (n := m) (fun i σ H' => ∃ (us : List V) (ls : List Lin) (s5 : Option V), σ = [some (.ref b), some (.int (n : Int)), some (.str ks), some (.int (m : Int)), some (.ref l), s5] ∧ Bag H' b ∧ (∃ r, H' b = some (.lst (.ref c0 :: r))) ∧ Kp b H H' ∧ H' l = some (.lst us) ∧ DpAll K H' us (ls.map Lin.d) ∧ ls.length = i ∧ ∀ x ∈ ls, x.Ok m) ⟨[], [], _, rfl, B1.keep (same_new hl), ⟨q0, (same_new hl) _ _ hb0⟩, k1.new hl, upd_same, .nil, rfl, fun x hx => absurd hx List.not_mem_nil⟩ ?_ ?_⟩
    · rintro i σ H2 hi ⟨us, ls, s5, rfl, B2, ⟨q2, hb2⟩, k2, hL, hA, hlen, hok⟩
      refine ⟨_, rfl, .inl ⟨rfl, _, SqL.of hL⟩, _, rfl, _, rfl, _, rfl, b, m, ks, rfl, B2, by omega, fun v x H3 hv hx B3 k3 => ?_⟩
      have hL3 := k3 _ _ nlb hL
      obtain ⟨q3, hb3⟩ := k3.inn _ _ hb2
      have hA3 : DpAll K H3 (us ++ [v]) ((ls ++ [x]).map Lin.d) := by
        rw [List.map_append]
        exact DpAll.append (Dp.sameTs (B2.sameT k3) (lin_nls ls) hA) (.cons hv .nil)
      have ul : us.length = i := by
        have := DpAll.length hA
        rw [List.length_map] at this
        omega
      refine ⟨l, us, v, rfl, rfl, hL3, szl (by omega), us ++ [v], ls ++ [x], _, rfl, B3.other hb3 nlb ncl, ⟨q3, by rw [upd_ne nlb.symm]; exact hb3⟩, ?_, upd_same, Dp.sameTs (.put hL3) (lin_nls _) hA3, by rw [List.length_append, hlen]; rfl, fun y hy => ?_⟩
      · exact (k2.trans k3).mut hlH nlb
      · rcases List.mem_append.mp hy with hy | hy
        · exact hok y hy
        · rw [List.mem_singleton.mp hy]; exact hx
    · rintro σ H2 ⟨us, ls, s5, rfl, B2, _, k2, hL, hA, hlen, hok⟩
      exact ⟨_, rfl, k l us ls H2 hlH hL hA (by omega) (by omega) (by rw [hlen]; exact hok) B2 k2⟩

/-! ### _law_lines -/
/-- the lines of a program -/
def sp__law_lines (K : PySem.W.Frag) : Sp := fun vs H Q _ => ∃ (b : Addr) (n : Nat) (ks : Str), vs = [.ref b, .int (n : Int), .str ks] ∧ Bag H b ∧ 0 < n ∧ n ≤ 20 ∧ ∀ (l : Addr) (us : List V) (ls : List Lin) (H' : Hp), H l = none → H' l = some (.lst us) → DpAll K H' us (ls.map Lin.d) → 0 < ls.length → ls.length ≤ n → (∀ x ∈ ls, x.Ok ls.length) → Bag H' b → Kp b H H' → Q (.ref l) H'

theorem sc__law_lines : FnScope ["bag", "top_z", "kinds", "found", "plain", "row"] ["bag", "top_z", "kinds"] (defScope s__law_lines) := ⟨rfl, rfl, rfl, by decide +kernel, rfl, by decide +kernel, by decide +kernel⟩
theorem ok__law_lines (E : En K mg) (G__law_states : Good P w K mg base CX0 3 "_law_states" ["rows"] (sp__law_states K)) (G__law_drawn : Good P w K mg base CX0 4 "_law_drawn" ["bag", "top_z", "kinds"] (sp__law_drawn K)) : Good P w K mg base CX0 5 "_law_lines" ["bag", "top_z", "kinds"] (sp__law_lines K) := by
  obtain ⟨fd, F⟩ := E.says.def_ 31 (d := d__law_lines) rfl
  refine ⟨fd, ?_, F.bindsN fun _ _ _ _ _ _ us hl => match us, hl with | [_, _, _], _ => rfl, F.kp, E.gl "_law_lines"⟩
  refine F.ok sc__law_lines (fun vs H Q E' h => ?_) (fun cdv A outer s H vs Q E' hr h => ?_)
  · obtain ⟨b, n, ks, rfl, _⟩ := h; rfl
  · have hu64 := hu64_of hr
    refine ⟨_, PSs.nox (pss_cons (ps_set (i := 3) sc__law_lines.nd rfl (by first | exact Or.inl rfl | exact Or.inr rfl) (pe_G G__law_drawn (hr.mono (by decide)) rfl pass0 (pa_cons (pv 0) (pa_cons (pv 1) (pa_cons (pv 2) pa_nil)))))
      (pss_cons (ps_if (pt_cmpR op_lt (pe_callB call_len_seq (by rfl) (E.fr "len") (by decide +kernel) (pa_cons (pe_G G__law_states (hr.mono (by decide)) rfl pass0 (pa_cons (pv 3) pa_nil)) pa_nil)) pe_int (nomark _))
        (pss_one (ps_ret (pv 3)))
        pss_nil)
      (pss_cons (ps_set (i := 4) sc__law_lines.nd rfl (by first | exact Or.inl rfl | exact Or.inr rfl) (pe_lst pa_nil))
      (pss_cons (ps_for PassesOwn.never rfl (pi_list (pv 3)) (pg_name (i := 5) sc__law_lines.nd rfl (by first | exact Or.inl rfl | exact Or.inr rfl))
        (pss_one (ps_expr (pe_bm PySem.F.plainAttrs_list PySem.F.slot_list_append PySem.F.type_list_append mt_append (pv 4) (pa_cons (pe_ifExp (PW.pt (pw_or (pt_cmpR op_eq (pe_ix ix_tup (pv 5) pe_int (fun _ _ => rfl)) pe_str (nomark _)) (pw_or1 (PW.pt (pw_and (pt_cmpR op_eq (pe_ix ix_tup (pv 5) pe_int (fun _ _ => rfl)) pe_str (nomark _)) (pw_and1 (pt_cmpR op_eq (pe_ix ix_tup (pe_ix ix_tup (pv 5) pe_int (fun _ _ => rfl)) pe_int (fun _ _ => rfl)) pe_str (nomark _)))))))) (pe_tup (pa_cons pe_str (pa_cons pe_str pa_nil))) (pv 5)) pa_nil)))))
      (pss_one (ps_ret (pv 4))))))), ?_⟩
    obtain ⟨b, n, ks, rfl, B, h0, h1, k⟩ := h
    have z0 : 0 ≤ sizeLine := by decide
    have z2 : 2 ≤ sizeLine := by decide
    refine ⟨_, rfl, _, rfl, _, rfl, b, n, ks, rfl, B, h0, by omega, fun l us ls H1 hlH hL hA l0 l1 hok B1 k1 => ?_⟩
    refine ⟨_, rfl, l, us, ls, rfl, SqL.of hL, hA, hok, l0, by omega, fun sl sw ss H2 e2 hSl hSd => ⟨sl, _, rfl, .inl (SqL.of hSl), _, _, rfl, rfl, _, rfl, ?_⟩⟩
    have B2 := B1.keep e2
    have k2 := k1.trans (Kp.of e2)
    have hL2 := e2 _ _ hL
    have hA2 := Dp.sameAll e2 hA
    refine ite2 (fun _ => ⟨_, rfl, k l us ls H2 hlH hL2 hA2 l0 l1 hok B2 k2⟩) (fun _ => ?_)
    -- plain
    refine ⟨z0, fun pl hpl => ?_⟩
    have npb : pl ≠ b := B2.ne hpl
    have e3 := same_new (o := .lst []) hpl
    have hplH : H pl = none := by
      cases q : H pl with
      | none => rfl
      | some o =>
        rw [k2 _ _ npb q] at hpl
        cases hpl
    have hL3 := e3 _ _ hL2
    have hA3 := Dp.sameAll e3 hA2
    have hlp : l ≠ pl := ne_of_none hL2 hpl
    have hul : us.length = ls.length := by
      have := DpAll.length hA
      rw [List.length_map] at this
      exact this
    refine ⟨_, rfl, l, rfl, ⟨_, SqL.of hL3⟩, for_list (K := K) (a := l) (xs := us) (fun i σ H' => ∃ (ws : List V) (ps : List Lin) (s5 : Option V), σ = [some (.ref b), some (.int (n : Int)), some (.str ks), some (.ref l), some (.ref pl), s5] ∧ Same H2 H' ∧ H' pl = some (.lst ws) ∧ DpAll K H' ws (ps.map Lin.d) ∧ ps.length = i ∧ ∀ x ∈ ps, x.Ok ls.length) ⟨[], [], _, rfl, e3, upd_same, .nil, rfl, fun x hx => absurd hx List.not_mem_nil⟩ (fun _ σ H' _ ⟨_, _, _, _, e, _⟩ => SqL.of (e _ _ hL2)) ?_ ?_⟩
    · rintro i z σ H4 hz ⟨ws, ps, s5, rfl, e4, hW, hP, hpl2, hpo⟩
      obtain ⟨x, hx, hv⟩ := lin_at (Dp.sameAll e4 hA2) hz
      have hxo := hok x (List.mem_of_getElem? hx)
      obtain ⟨c, cs, rfl, hS, hC⟩ := Dp.lin hv
      have hi : i < us.length := (List.getElem?_eq_some_iff.mp hz).1
      have wl : ws.length = ps.length := by
        have := DpAll.length hP
        rw [List.length_map] at this
        exact this
      have keep : H4 pl = some (.lst ws) ∧ ws.length < sizeLine ∧ ∃ (ws' : List V) (ps : List Lin) (s5 : Option V), [some (V.ref b), some (V.int (n : Int)), some (V.str ks), some (V.ref l), some (V.ref pl), some (V.ref c)] = [some (.ref b), some (.int (n : Int)), some (.str ks), some (.ref l), some (.ref pl), s5] ∧ Same H2 (upd H4 pl (.lst (ws ++ [.ref c]))) ∧ (upd H4 pl (.lst (ws ++ [.ref c]))) pl = some (.lst ws') ∧ DpAll K (upd H4 pl (.lst (ws ++ [.ref c]))) ws' (ps.map Lin.d) ∧ ps.length = i + 1 ∧ ∀ x ∈ ps, x.Ok ls.length := by
        refine ⟨hW, szl (by omega), ws ++ [.ref c], ps ++ [x], _, rfl, same_mut e4 hpl, upd_same, ?_, by rw [List.length_append, hpl2]; rfl, fun y hy => ?_⟩
        · rw [List.map_append]
          exact DpAll.append (Dp.sameTs (.put hW) (lin_nls ps) hP) (.cons (Dp.sameT (.put hW) x.nl hv) .nil)
        · rcases List.mem_append.mp hy with hy | hy
          · exact hpo y hy
          · rw [List.mem_singleton.mp hy]; exact hxo
      have swap : ∀ q, H4 q = none → ∀ (Q' : Prop), True := fun _ _ _ => trivial
      have swap : ∀ q, H4 q = none → (upd H4 q (.tup [V.str "take", .str "x"])) pl = some (.lst ws) ∧ ws.length < sizeLine ∧ ∃ (ws' : List V) (ps : List Lin) (s5 : Option V), [some (V.ref b), some (V.int (n : Int)), some (V.str ks), some (V.ref l), some (V.ref pl), some (V.ref c)] = [some (.ref b), some (.int (n : Int)), some (.str ks), some (.ref l), some (.ref pl), s5] ∧ Same H2 (upd (upd H4 q (.tup [V.str "take", .str "x"])) pl (.lst (ws ++ [.ref q]))) ∧ (upd (upd H4 q (.tup [V.str "take", .str "x"])) pl (.lst (ws ++ [.ref q]))) pl = some (.lst ws') ∧ DpAll K (upd (upd H4 q (.tup [V.str "take", .str "x"])) pl (.lst (ws ++ [.ref q]))) ws' (ps.map Lin.d) ∧ ps.length = i + 1 ∧ ∀ x ∈ ps, x.Ok ls.length := fun q hq => by
        have f1 := same_new (o := .tup [V.str "take", .str "x"]) hq
        have hW1 := f1 _ _ hW
        have hq1 : Dp K (upd H4 q (.tup [V.str "take", .str "x"])) (.ref q) (Lin.take true).d := .tup (SqT.of upd_same) (.cons (.str _) (.cons (.str _) .nil))
        refine ⟨hW1, szl (by omega), ws ++ [.ref q], ps ++ [.take true], _, rfl, same_mut (e4.trans f1) hpl, upd_same, ?_, by rw [List.length_append, hpl2]; rfl, fun y hy => ?_⟩
        · rw [List.map_append]
          exact DpAll.append (Dp.sameTs (.put hW1) (lin_nls ps) (Dp.sameAll f1 hP)) (.cons (Dp.sameT (.put hW1) (Lin.nl _) hq1) .nil)
        · rcases List.mem_append.mp hy with hy | hy
          · exact hpo y hy
          · rw [List.mem_singleton.mp hy]; exact trivial
      refine ⟨_, rfl, .inl ⟨rfl, _, SqL.of hW⟩, _, rfl, c, _, _, _, rfl, rfl, hS, at_0 _ _, rfl, _, rfl, ?_⟩
      cases x with
      | set v m =>
        exact ite_t (Lin.w_is (.set v m) 2) ⟨z2, fun q hq => ⟨pl, _, _, rfl, rfl, swap q hq⟩⟩
      | test t tg =>
        refine ite_f (Lin.w_is (.test t tg) 2) ?_
        obtain ⟨u1, u2, rfl, g1, g2⟩ := DpAll.two' hC
        obtain ⟨tb, tw, rfl, hT, hTC⟩ := Dp.tst g1
        refine ⟨_, rfl, c, _, _, _, rfl, rfl, hS, at_0 _ _, rfl, _, rfl, ite_t (Lin.w_is (.test t tg) 3) ?_⟩
        refine ⟨_, rfl, c, _, _, _, rfl, rfl, hS, at_1 _ _ _, tb, _, _, _, rfl, rfl, hT, at_0 _ _, rfl, _, rfl, ?_⟩
        exact ite2 (fun _ => ⟨z2, fun q hq => ⟨pl, _, _, rfl, rfl, swap q hq⟩⟩) (fun _ => ⟨_, rfl, pl, _, _, rfl, rfl, keep⟩)
      | _ =>
        refine ite_f (Lin.w_is _ 2) ⟨_, rfl, c, _, _, _, rfl, rfl, hS, at_0 _ _, rfl, _, rfl, ite_f (Lin.w_is _ 3) ?_⟩
        exact ⟨_, rfl, pl, _, _, rfl, rfl, keep⟩
    rintro σ H4 ⟨ws, ps, s5, rfl, e4, hW, hP, hpl2, hpo⟩
    have ep : ps.length = ls.length := by omega
    exact ⟨_, rfl, k pl ws ps H4 hplH hW hP (by omega) (by omega) (by rw [ep]; exact hpo) (B2.keep e4) (k2.trans (Kp.of e4))⟩

/-! ### _law_bag -/
/-- a new bag -/
def sp__law_bag (K : PySem.W.Frag) : Sp := fun vs H Q _ => ∃ (a : Addr) (ns : List Int), vs = [.ref a] ∧ SqL K H a (ns.map V.int) ∧ ns.length ≤ 63 ∧ ∀ (b : Addr) (H' : Hp), H b = none → Bag H' b → Same H H' → Q (.ref b) H'

theorem sc__law_bag : FnScope ["script", "salt", "cell"] ["script"] (defScope s__law_bag) := ⟨rfl, rfl, rfl, by decide +kernel, rfl, by decide +kernel, by decide +kernel⟩
theorem ok__law_bag (E : En K mg) : Good P w K mg base CX0 1 "_law_bag" ["script"] (sp__law_bag K) := by
  obtain ⟨fd, F⟩ := E.says.def_ 32 (d := d__law_bag) rfl
  refine ⟨fd, ?_, F.bindsN fun _ _ _ _ _ _ us hl => match us, hl with | [_], _ => rfl, F.kp, E.gl "_law_bag"⟩
  refine F.ok sc__law_bag (fun vs H Q E' h => ?_) (fun cdv A outer s H vs Q E' hr h => ?_)
  · obtain ⟨a, ns, rfl, _⟩ := h; rfl
  · have hu64 := hu64_of hr
    refine ⟨_, PSs.nox (pss_cons (ps_set (i := 1) sc__law_bag.nd rfl (by first | exact Or.inl rfl | exact Or.inr rfl) pe_int)
      (pss_cons (ps_for PassesOwn.never rfl (pi_list (pe_slice sl_list (pv 0) po_none (po_some pe_int))) (pg_name (i := 2) sc__law_bag.nd rfl (by first | exact Or.inl rfl | exact Or.inr rfl))
        (pss_one (ps_set (i := 1) sc__law_bag.nd rfl (by first | exact Or.inl rfl | exact Or.inr rfl) (pe_op op_mod (pe_callTy call_int1 (by rfl) (E.fr "int") (by decide +kernel) (pa_cons (pe_op op_add (pe_op op_add (pe_op op_mul (pv 1) pe_int) (pe_op op_mod (pe_callTy call_int1 (by rfl) (E.fr "int") (by decide +kernel) (pa_cons (pv 2) pa_nil)) pe_int)) pe_int) pa_nil)) pe_int))))
      (pss_one (ps_ret (pe_lst (pa_cons (pe_callTy call_list_of (by rfl) (E.fr "list") (by decide +kernel) (pa_cons (pe_slice sl_list (pv 0) po_none (po_some pe_int)) pa_nil)) (pa_cons pe_int (pa_cons pe_int (pa_cons (pv 1) pa_nil))))))))), ?_⟩
    obtain ⟨a, ns, rfl, hS, hl, k⟩ := h
    have hl' : (ns.map V.int).length ≤ 63 := by rw [List.length_map]; exact hl
    refine ⟨_, rfl, 63, rfl, a, _, rfl, hS, fun p hp => ?_⟩
    rw [cut63 hl']
    refine ⟨p, rfl, ⟨_, SqL.of upd_same⟩, for_list (K := K) (a := p) (xs := ns.map V.int) (fun i σ H' => ∃ (s : Int) (v : Option V), σ = [some (.ref a), some (.int s), v] ∧ 0 ≤ s ∧ s < 2147483647 ∧ Same (upd H p (.lst (ns.map V.int))) H')
      ⟨3828, none, rfl, by decide, by decide, Same.refl _⟩ (fun i σ H' _ ⟨_, _, _, _, _, e⟩ => SqL.of (e _ _ upd_same)) ?_ ?_⟩
    · rintro i x σ H' hx ⟨s, v, rfl, h0, h1, e⟩
      obtain ⟨z, rfl⟩ : ∃ z, x = V.int z := by
        rw [List.getElem?_map] at hx
        cases q : ns[i]? with
        | none => rw [q] at hx; cases hx
        | some z => rw [q] at hx; exact ⟨z, (Option.some.inj hx).symm⟩
      refine ⟨_, rfl, _, _, rfl, rfl, .inr ⟨by decide, by decide⟩, _, rfl, .inl ⟨_, rfl, _, _, rfl, rfl, (by show (0 : Int) < _; decide), _, _, rfl, rfl, _, _, rfl, rfl, .inl ⟨_, rfl, _, _, rfl, rfl, (by show (0 : Int) < _; decide), ?_⟩⟩⟩
      have q := emod_bd (s * 45053 + z % 2147483563 + 23) (m := 2147483647) (by decide)
      exact ⟨_, some (.int z), rfl, q.1, q.2, e⟩
    · rintro σ H' ⟨s, v, rfl, h0, h1, e⟩
      have e1 : Same H H' := fun b o q => e b o (by rw [upd_ne (ne_of_none q hp)]; exact q)
      refine ⟨_, rfl, 63, rfl, a, _, rfl, e1.seq hS, fun p2 hp2 => ?_⟩
      rw [cut63 hl']
      refine ⟨p2, _, rfl, .inl (SqL.of upd_same), fun p3 hp3 => ?_⟩
      refine ⟨_, rfl, (by show 4 ≤ sizeLine; decide), fun b hb => ?_⟩
      have n32 : p3 ≠ p2 := fun z => by rw [z, upd_same] at hp3; cases hp3
      have nb3 : b ≠ p3 := fun z => by rw [z, upd_same] at hb; cases hb
      have hp3' : H' p3 = none := by rw [upd_ne n32] at hp3; exact hp3
      have hb2 : (upd H' p2 (.lst (ns.map V.int))) b = none := by rw [upd_ne nb3] at hb; exact hb
      have e2 : Same H' (upd (upd (upd H' p2 (.lst (ns.map V.int))) p3 (.lst (ns.map V.int))) b (.lst [.ref p3, .int 0, .int 0, .int s])) :=
        (same_new hp2).trans ((same_new hp3).trans (same_new hb))
      refine k b _ ?_ ⟨p3, ns, 0, 0, s, upd_same, ?_, nb3, hl, by decide, by decide, h0, h1⟩ (e1.trans e2)
      · have z : H' b = none := Same.free (same_new hp2) hb2
        exact Same.free e1 z
      · rw [upd_ne nb3.symm, upd_same]

/-! ### law -/
abbrev t19 (K : PySem.W.Frag) : List (Addr × Str) := [((He.cT K ("law", none)).2, (("law" : Str) ++ ".<locals>.") ++ "<lambda>")]
theorem seq_split {A B : TS} {D : Ends} {σ : L2.St} {H : Hp} {R : L2.St → Hp → Prop} (h2 : ∀ σ' H', R σ' H' → B D σ' H') (h1 : ∀ D1 : Ends, (∀ σ' H', R σ' H' → D1.nx σ' H') → A D1 σ H) : tSeq A B D σ H := h1 _ h2
theorem old_none {H H1 : Hp} {q : Addr} (e : Same H H1) (z : H1 q = none) : H q = none := by
  cases w : H q with
  | none => rfl
  | some o =>
    have := (e _ _ w).symm.trans z
    cases this
theorem tupX_extN {H H' : Hp} (e : LamX.ExtN H H') : TupX H H' := fun a o h t => e a o h (fun ps z => by subst z; exact t)
section
variable {K : PySem.W.Frag} {H H' : Hp} {b c0 xr pl rl dl xp pp rp p l dn : Addr} {us : List V} {ls : List Lin} {s : RSt} {hs : List RSt}
theorem runP_extN {C : Addr} {more : List (Str × V)} (e : LamX.ExtN H H') (h : RunP K C more H xr pl rl p us ls s hs) : RunP K C more H' xr pl rl p us ls s hs := by
  obtain ⟨dx, v, ps, h1, h2, h3, h4⟩ := h.ex
  obtain ⟨d, rp, g1, g2, g3⟩ := h.prog.ex
  have t : TupX H H' := tupX_extN e
  exact ⟨h.rc, ⟨dx, v, ps, e _ _ h1 (fun _ z => by cases z), Dp.tupX t s.nl h2, e _ _ h3 (fun _ z => by cases z), Dp.tupXs t (rst_nls hs) h4⟩, e _ _ h.rows (fun _ z => by cases z), h.ne, ⟨⟨d, rp, e _ _ g1 (fun _ z => by cases z), e _ _ g2 (fun _ z => by cases z), t.seqT g3⟩, Dp.tupXs t (lin_nls ls) h.prog.dp, h.prog.ok, h.prog.l0, h.prog.l1⟩, h.ml⟩
theorem mvC_tupX {C : Addr} {e1 : Addr} {f1 : List (Str × V)} {x1 x2 : List V} {a q d : Addr} (m : MvC a q d H H') (h1 : H a = some (.ins C e1 f1)) (h2 : H q = some (.lst x1)) (h3 : H d = some (.lst x2)) : TupX H H' := fun c o h t => by
  refine m c o (fun z => ?_) (fun z => ?_) (fun z => ?_) h
  · rw [z, h1] at h; cases h; exact t
  · rw [z, h2] at h; cases h; exact t
  · rw [z, h3] at h; cases h; exact t
theorem tabs_mvC {T : List (Addr × Str)} {C : Addr} {e1 : Addr} {f1 : List (Str × V)} {x1 x2 : List V} {a q d : Addr} (m : MvC a q d H H') (h1 : H a = some (.ins C e1 f1)) (h2 : H q = some (.lst x1)) (h3 : H d = some (.lst x2)) (t : LamX.Tabs T H) : LamX.Tabs T H' := fun r hr => by
  obtain ⟨ps, g1, g2, g3⟩ := t r hr
  refine ⟨ps, m _ _ (fun z => by rw [z, h1] at g1; cases g1) (fun z => by rw [z, h2] at g1; cases g1) (fun z => by rw [z, h3] at g1; cases g1) g1, g2, fun pos cv hc => ?_⟩
  obtain ⟨c, e1, e2⟩ := g3 pos cv hc
  exact ⟨c, e1, m _ _ (fun z => by rw [z, h1] at e2; cases e2) (fun z => by rw [z, h2] at e2; cases e2) (fun z => by rw [z, h3] at e2; cases e2) e2⟩
theorem bag_mvC {r : List V} {a q d : Addr} (B : Bag H b) (hc : H b = some (.lst (.ref c0 :: r))) (m : MvC a q d H H') (b1 : b ≠ a) (b2 : b ≠ q) (b3 : b ≠ d) (c1 : c0 ≠ a) (c2 : c0 ≠ q) (c3 : c0 ≠ d) : Bag H' b := by
  obtain ⟨c', xs, i, hold, seed, h1, h2, h3⟩ := B.ex
  rw [hc] at h1
  cases h1
  exact ⟨c0, xs, i, hold, seed, m _ _ b1 b2 b3 hc, m _ _ c1 c2 c3 h2, h3⟩
theorem prog_mvC {C e1 : Addr} {f1 : List (Str × V)} {x1 x2 : List V} {a q d : Addr} (m : MvC a q d H H') (h1 : H a = some (.ins C e1 f1)) (h2 : H q = some (.lst x1)) (h3 : H d = some (.lst x2)) (n : p ≠ a) (h : ProgAt K H p us ls) : ProgAt K H' p us ls := by
  obtain ⟨dx, rp, g1, g2, g3⟩ := h.ex
  have t : TupX H H' := mvC_tupX m h1 h2 h3
  exact ⟨⟨dx, rp, m _ _ n (fun z => by rw [z, h2] at g1; cases g1) (fun z => by rw [z, h3] at g1; cases g1) g1, m _ _ (fun z => by rw [z, h1] at g2; cases g2) (fun z => by rw [z, h2] at g2; cases g2) (fun z => by rw [z, h3] at g2; cases g2) g2, t.seqT g3⟩, Dp.tupXs t (lin_nls ls) h.dp, h.ok, h.l0, h.l1⟩
/-- another run moves -/
theorem runP_mvC {C D e1 : Addr} {more : List (Str × V)} {f1 : List (Str × V)} {x1 x2 : List V} {a q d : Addr} (m : MvC a q d H H') (h1 : H a = some (.ins D e1 f1)) (h2 : H q = some (.lst x1)) (h3 : H d = some (.lst x2)) (n1 : xp ≠ a) (n2 : pp ≠ q) (n3 : pp ≠ d) (n4 : rp ≠ q) (n5 : rp ≠ d) (n6 : p ≠ a) (h : RunP K C more H xp pp rp p us ls s hs) : RunP K C more H' xp pp rp p us ls s hs := by
  obtain ⟨dx, v, ps, g1, g2, g3, g4⟩ := h.ex
  have t : TupX H H' := mvC_tupX m h1 h2 h3
  have hr := h.rows
  exact ⟨h.rc, ⟨dx, v, ps, m _ _ n1 (fun z => by rw [z, h2] at g1; cases g1) (fun z => by rw [z, h3] at g1; cases g1) g1, Dp.tupX t s.nl g2, m _ _ (fun z => by rw [z, h1] at g3; cases g3) n2 n3 g3, Dp.tupXs t (rst_nls hs) g4⟩,
    m _ _ (fun z => by rw [z, h1] at hr; cases hr) n4 n5 hr, h.ne, prog_mvC m h1 h2 h3 n6 h.prog, h.ml⟩
theorem mvC_of {a q : Addr} (m : MvR a q H H') : MvC a q q H H' := fun c o n1 n2 _ h => m c o n1 n2 h
/-- the addresses that stay apart -/
structure N19 (b c0 xr pl rl dl xp pp rp p l : Addr) : Prop where
  b1 : b ≠ xr
  b2 : b ≠ pl
  b3 : b ≠ dl
  b4 : b ≠ rl
  b5 : b ≠ xp
  b6 : b ≠ pp
  b7 : b ≠ rp
  c1 : c0 ≠ xr
  c2 : c0 ≠ pl
  c3 : c0 ≠ dl
  c5 : c0 ≠ xp
  c6 : c0 ≠ pp
  l1 : l ≠ xr
  l2 : l ≠ pl
  l3 : l ≠ dl
  l5 : l ≠ xp
  l6 : l ≠ pp
  l7 : l ≠ b
  r1 : xr ≠ xp
  r2 : pl ≠ pp
  r3 : dl ≠ pp
  r4 : rl ≠ pp
  r5 : rp ≠ pl
  r6 : rp ≠ dl
structure G19 (K : PySem.W.Frag) (H : Hp) (b c0 xr pl rl dl xp pp rp p l dn : Addr) (us : List V) (ls : List Lin) (s : RSt) (hs : List RSt) : Prop where
  bag : Bag H b
  inn : ∃ q, H b = some (.lst (.ref c0 :: q))
  tab : LamX.Tabs (t19 K) H
  cou : CouP K (He.ga K "CountingRunner") H xr pl rl p dl us ls s hs
  run : RunP K (He.ga K "Runner") [] H xp pp rp p us ls s hs
  row : H l = some (.lst us)
  don : H dn = some (.lst ((hs.map fun t => (t.at_ : Int)).map V.int))
  d1 : dn ≠ b
  d2 : dn ≠ xr
  d3 : dn ≠ pl
  d4 : dn ≠ dl
  d5 : dn ≠ xp
  d6 : dn ≠ pp
  sok : s.Ok ls.length
  hok : ∀ t ∈ hs, t.out = none ∧ t.Ok ls.length ∧ t.at_ < ls.length
theorem CouP_extN (e : LamX.ExtN H H') (h : CouP K (He.ga K "CountingRunner") H xr pl rl p dl us ls s hs) : CouP K (He.ga K "CountingRunner") H' xr pl rl p dl us ls s hs := ⟨runP_extN e h.run, h.nd, e _ _ h.don (fun _ z => by cases z), h.np, h.nr⟩
theorem G19.same (g : G19 K H b c0 xr pl rl dl xp pp rp p l dn us ls s hs) (e : Same H H') : G19 K H' b c0 xr pl rl dl xp pp rp p l dn us ls s hs := by
  obtain ⟨q, h⟩ := g.inn
  exact ⟨g.bag.keep e, ⟨q, e _ _ h⟩, g.tab.ext e, g.cou.same e, g.run.same e, e _ _ g.row, e _ _ g.don, g.d1, g.d2, g.d3, g.d4, g.d5, g.d6, g.sok, g.hok⟩
theorem G19.kp (n : N19 b c0 xr pl rl dl xp pp rp p l) (g : G19 K H b c0 xr pl rl dl xp pp rp p l dn us ls s hs) (B : Bag H' b) (k : Kp b H H') : G19 K H' b c0 xr pl rl dl xp pp rp p l dn us ls s hs := by
  obtain ⟨q, h⟩ := g.inn
  exact ⟨B, k.inn _ _ h, tabs_sameT (g.bag.sameT k) g.tab, g.cou.kp g.bag k n.b2.symm n.b4.symm n.b3.symm, g.run.kp g.bag k n.b6.symm n.b7.symm, k.kp _ _ n.l7 g.row, k.kp _ _ g.d1 g.don, g.d1, g.d2, g.d3, g.d4, g.d5, g.d6, g.sok, g.hok⟩
theorem G19.extN (g : G19 K H b c0 xr pl rl dl xp pp rp p l dn us ls s hs) (e : LamX.ExtN H H') (T : LamX.Tabs (t19 K) H') : G19 K H' b c0 xr pl rl dl xp pp rp p l dn us ls s hs := by
  obtain ⟨q, h⟩ := g.inn
  exact ⟨g.bag.extN e, ⟨q, e _ _ h (fun _ z => by cases z)⟩, T, CouP_extN e g.cou, runP_extN e g.run, e _ _ g.row (fun _ z => by cases z), e _ _ g.don (fun _ z => by cases z), g.d1, g.d2, g.d3, g.d4, g.d5, g.d6, g.sok, g.hok⟩
/-- what stands while one run is ahead of the other -/
structure M19 (K : PySem.W.Frag) (H : Hp) (b c0 xr pl rl dl xp pp rp p l dn : Addr) (us : List V) (ls : List Lin) (s s' : RSt) (hs hs' : List RSt) : Prop where
  bag : Bag H b
  inn : ∃ q, H b = some (.lst (.ref c0 :: q))
  tab : LamX.Tabs (t19 K) H
  cou : CouP K (He.ga K "CountingRunner") H xr pl rl p dl us ls s' hs'
  run : RunP K (He.ga K "Runner") [] H xp pp rp p us ls s hs
  row : H l = some (.lst us)
theorem G19.mvC {s' : RSt} {hs' : List RSt} (n : N19 b c0 xr pl rl dl xp pp rp p l) (g : G19 K H b c0 xr pl rl dl xp pp rp p l dn us ls s hs) (m : MvC xr pl dl H H') (C : CouP K (He.ga K "CountingRunner") H' xr pl rl p dl us ls s' hs') :
    M19 K H' b c0 xr pl rl dl xp pp rp p l dn us ls s s' hs hs' ∧ H' dn = some (.lst ((hs.map fun t => (t.at_ : Int)).map V.int)) := by
  obtain ⟨q, h⟩ := g.inn
  obtain ⟨dx, v, ps, h1, h2, h3, h4⟩ := g.cou.run.ex
  exact ⟨⟨bag_mvC g.bag h m n.b1 n.b2 n.b3 n.c1 n.c2 n.c3, ⟨q, m _ _ n.b1 n.b2 n.b3 h⟩, tabs_mvC m h1 h3 g.cou.don g.tab, C, runP_mvC m h1 h3 g.cou.don n.r1.symm n.r2.symm n.r3.symm n.r5 n.r6 g.cou.run.np.1 g.run, m _ _ n.l1 n.l2 n.l3 g.row⟩, m _ _ g.d2 g.d3 g.d4 g.don⟩
theorem M19.same {s' : RSt} {hs' : List RSt} (g : M19 K H b c0 xr pl rl dl xp pp rp p l dn us ls s s' hs hs') (e : Same H H') : M19 K H' b c0 xr pl rl dl xp pp rp p l dn us ls s s' hs hs' := by
  obtain ⟨q, h⟩ := g.inn
  exact ⟨g.bag.keep e, ⟨q, e _ _ h⟩, g.tab.ext e, g.cou.same e, g.run.same e, e _ _ g.row⟩
theorem M19.extN {s' : RSt} {hs' : List RSt} (g : M19 K H b c0 xr pl rl dl xp pp rp p l dn us ls s s' hs hs') (e : LamX.ExtN H H') (T : LamX.Tabs (t19 K) H') : M19 K H' b c0 xr pl rl dl xp pp rp p l dn us ls s s' hs hs' := by
  obtain ⟨q, h⟩ := g.inn
  exact ⟨g.bag.extN e, ⟨q, e _ _ h (fun _ z => by cases z)⟩, T, CouP_extN e g.cou, runP_extN e g.run, e _ _ g.row (fun _ z => by cases z)⟩
/-- the other run follows; done is a new list -/
theorem M19.follow {s' : RSt} {hs' : List RSt} {dm : Addr} (n : N19 b c0 xr pl rl dl xp pp rp p l) (g : M19 K H b c0 xr pl rl dl xp pp rp p l dn us ls s s' hs hs') (m : MvR xp pp H H') (R : RunP K (He.ga K "Runner") [] H' xp pp rp p us ls s' hs') :
    M19 K H' b c0 xr pl rl dl xp pp rp p l dm us ls s' s' hs' hs' := by
  obtain ⟨q, h⟩ := g.inn
  obtain ⟨dx, v, ps, h1, h2, h3, h4⟩ := g.run.ex
  have mc : MvC xp pp pp H H' := mvC_of m
  have hd := g.cou.don
  exact ⟨bag_mvC g.bag h mc n.b5 n.b6 n.b6 n.c5 n.c6 n.c6, ⟨q, m _ _ n.b5 n.b6 h⟩, tabs_mvC mc h1 h3 h3 g.tab, ⟨g.cou.run.mvR m h1 h3 n.r1 n.r2 n.r4 g.run.np.1, g.cou.nd, m _ _ (fun z => by rw [z, h1] at hd; cases hd) n.r3 hd, g.cou.np, g.cou.nr⟩, R, m _ _ n.l5 n.l6 g.row⟩
/-- even again -/
theorem M19.even (g : M19 K H b c0 xr pl rl dl xp pp rp p l dn us ls s s hs hs) (h : H dn = some (.lst ((hs.map fun t => (t.at_ : Int)).map V.int))) (d1 : dn ≠ b) (d2 : dn ≠ xr) (d3 : dn ≠ pl) (d4 : dn ≠ dl) (d5 : dn ≠ xp) (d6 : dn ≠ pp) (sok : s.Ok ls.length) (hok : ∀ t ∈ hs, t.out = none ∧ t.Ok ls.length ∧ t.at_ < ls.length) : G19 K H b c0 xr pl rl dl xp pp rp p l dn us ls s hs :=
  ⟨g.bag, g.inn, g.tab, g.cou, g.run, g.row, h, d1, d2, d3, d4, d5, d6, sok, hok⟩
end
theorem ints_dp (K : PySem.W.Frag) (H : Hp) : ∀ ns : List Int, DpAll K H (ns.map V.int) (ns.map PyData.int)
  | [] => .nil
  | _ :: ns => .cons (.int _) (ints_dp K H ns)
theorem ints_dep : ∀ ns : List Int, PyData.depthAll (ns.map PyData.int) = 0
  | [] => rfl
  | _ :: ns => by
    rw [List.map_cons, PyData.depthAll, ints_dep ns]
    rfl
theorem ints_small : ∀ ns : List Int, smallDs (ns.map PyData.int) = true
  | [] => rfl
  | _ :: ns => by
    rw [List.map_cons, smallDs, ints_small ns]
    rfl
theorem cnt_at (hs : List RSt) (i : Nat) : (hs.map fun t => (t.at_ : Int)).count (i : Int) = hs.countP fun t => t.at_ == i := by
  induction hs with
  | nil => rfl
  | cons t hs ih =>
    rw [List.map_cons, List.count_cons, List.countP_cons, ih]
    congr 1
    by_cases c : t.at_ = i
    · simp [c]
    · have : ¬ ((t.at_ : Int) = (i : Int)) := fun z => c (by omega)
      simp [c, this]
theorem at_data (s : RSt) : ∃ d : PyData, (∀ (K : PySem.W.Frag) (H : Hp), Dp K H (atV s) d) ∧ d.depth ≤ 1 ∧ smallD d = true := by
  unfold atV
  cases s.out with
  | none => exact ⟨.int s.at_, fun _ _ => .int _, by simp [PyData.depth], rfl⟩
  | some z => exact ⟨.none, fun _ _ => .non, by decide, rfl⟩
theorem out_data (s : RSt) : (outD s.out).depth ≤ 1 ∧ smallD (outD s.out) = true := by
  cases s.out with
  | none => exact ⟨by decide, rfl⟩
  | some z => exact ⟨by simp [outD, PyData.depth], rfl⟩
theorem dep4 {a b c : Int} {d1 d2 : PyData} (h1 : d1.depth ≤ 1) (h2 : d2.depth ≤ 1) : (PyData.list [.tuple [.int a, .int b], d1, d2, .int c]).depth < 12 := by
  simp only [PyData.depth, PyData.depthAll]
  omega
theorem sma4 {a b c : Int} {d1 d2 : PyData} (h1 : smallD d1 = true) (h2 : smallD d2 = true) : smallD (PyData.list [.tuple [.int a, .int b], d1, d2, .int c]) = true := by
  simp [smallD, smallDs, h1, h2]
theorem lay_val (n : Int) : (PyData.tuple [.str "value", .int n]).canLay0 = true := by
  have h : (PyData.str "value").canLay0 = true := by decide +kernel
  rw [PyData.canLay0, PyData.canLayAll0, h, PyData.canLayAll0]
  rfl
theorem eqv_val (n : Int) : PyData.eqv (.tuple [.str "value", .int n]) (.tuple [.str "value", .int n]) = true := PySem.SeqAt.eqv_refl _ (lay_val n)
theorem sh_val (n : Int) : SeqAt.shaped (.tuple [.str "value", .int n]) = true := by
  unfold SeqAt.shaped
  have d : (PyData.tuple [.str "value", .int n]).depth ≤ 1 := Nat.le_of_ble_eq_true rfl
  rw [lay_val n, decide_eq_true (by omega)]
  rfl
def sp_law (K : PySem.W.Frag) : Sp := fun vs H Q _ => ∃ (a : Addr) (ns : List Int), vs = [.ref a] ∧ H (He.cT K ("law", none)).2 = some (.tbl #[]) ∧ SqL K H a (ns.map V.int) ∧ ns.length ≤ 63 ∧ ∀ H', Q (.bl true) H'
theorem sp_law_holds {K : PySem.W.Frag} (H : Hp) (a : Addr) (ns : List Int) (hl : ns.length ≤ 63) (hT : H (He.cT K ("law", none)).2 = some (.tbl #[])) (hS : SqL K H a (ns.map V.int)) : sp_law K [.ref a] H (fun v _ => v = .bl true) fun _ _ _ => False := ⟨a, ns, rfl, hT, hS, hl, fun _ => rfl⟩

theorem sc_law : FnScope ["script", "bag", "turn", "rows", "pair", "source", "run", "plain", "done", "k", "pick", "line"] ["script"] (defScope s_law) := ⟨rfl, rfl, rfl, by decide +kernel, rfl, by decide +kernel, by decide +kernel⟩
theorem ok_law {fd : FuncData} (F : FunD K "law" "law" (defArgs s_law) (defBody s_law) (defScope s_law) [] [] (He.ga K "law") fd) (E : En K mg) (TB : LamX.TabB base mg (He.cT K ("law", none)).1 (He.cT K ("law", none)).2) (G__law_field : GoodA P w K mg base 1 "_law_field" ["e"] (sp_field K)) (G__law_try : GoodT P w K mg base 14 (ETryN K (He.ga K "PathError") (He.ga K "Missing") (He.ga K "NothingLeft"))) (G__law_pull : Good P w K mg base CX0 1 "_law_pull" ["bag", "amount"] (sp__law_pull K)) (G__law_same : Good P w K mg base CX0 12 "_law_same" ["found", "due"] (sp__law_same K)) (G_Runner_outcome : GoodM P w K mg base CX0 1 (He5.wf K (He.ga K "Runner") "property" "outcome") ["self"] (sp_Runner_outcome K)) (G_Runner_at : GoodM P w K mg base CX0 1 (He5.wf K (He.ga K "Runner") "property" "at") ["self"] (sp_Runner_at K)) (G_Runner_pair : GoodM P w K mg base CX0 1 (He5.wf K (He.ga K "Runner") "property" "pair") ["self"] (sp_Runner_pair K)) (G_Runner_steps : GoodM P w K mg base CX0 1 (He5.wf K (He.ga K "Runner") "property" "steps") ["self"] (sp_Runner_steps K)) (G_CountingRunner_counts : GoodM P w K mg base CX0 1 (He.ma K (He.ga K "CountingRunner") "counts") ["self"] (sp_CountingRunner_counts K)) (G_CountingRunner_back : GoodM P w K mg base (L2.CX P w) 4 (He.ma K (He.ga K "CountingRunner") "back") ["self"] (sp_CountingRunner_back K)) (G_Runner_back : GoodM P w K mg base (L2.CX P w) 3 (He.ma K (He.ga K "Runner") "back") ["self"] (sp_Runner_back K)) (G_Runner_step : GoodMN P w K mg base (L2.CX P w) 3 (He.ma K (He.ga K "Runner") "step") 1 ["choice"] ["self", "choice"] (fun vs zs => vs ++ zs) (sp_Runner_step K) ∧ GoodMN P w K mg base (L2.CX P w) 3 (He.ma K (He.ga K "Runner") "step") 1 [] ["self", "choice"] (fun vs zs => vs ++ [V.int 0]) (sp_Runner_step K)) (G_CountingRunner_step : GoodMN P w K mg base CX0 4 (He.ma K (He.ga K "CountingRunner") "step") 1 ["choice"] ["self", "choice"] (fun vs zs => vs ++ zs) (sp_CountingRunner_step K)) (G_Runner___init__ : GoodM P w K mg base CX0 4 (He.ma K (He.ga K "Runner") "__init__") ["self", "program", "pair"] (sp_Runner___init__ K) ∧ GoodMN P w K mg base CX0 4 (He.ma K (He.ga K "Runner") "__init__") 1 ["pair", "program"] ["self", "program", "pair"] (fun vs zs => vs ++ zs.reverse) (sp_Runner___init__ K)) (G_CountingRunner___init__ : GoodM P w K mg base CX0 6 (He.ma K (He.ga K "CountingRunner") "__init__") ["self", "program", "pair"] (sp_CountingRunner___init__ K)) (G__law_program : Good P w K mg base CX0 7 "_law_program" ["lines"] (sp__law_program K)) (G__law_pair : Good P w K mg base CX0 2 "_law_pair" ["bag", "top_z"] (sp__law_pair K)) (G__law_lines : Good P w K mg base CX0 5 "_law_lines" ["bag", "top_z", "kinds"] (sp__law_lines K)) (G__law_bag : Good P w K mg base CX0 1 "_law_bag" ["script"] (sp__law_bag K)) : FnOk P w K mg base CX0 16 (He.ga K "law") fd ["script"] (sp_law K) := by
  refine F.okC sc_law (fun vs H Q E' h => ?_) (fun A outer s H vs Q E' hr h => ?_)
  · obtain ⟨a, ns, rfl, _⟩ := h; rfl
  · have hu64 := hu64_of hr
    have hls1 : ∀ l ∈ _, LamK ((cxOf CX0 P w K mg base ["script", "bag", "turn", "rows", "pair", "source", "run", "plain", "done", "k", "pick", "line"] "law" (defScope s_law) (He.ga K "law") (.ref (He.cT K ("law", none)).1) A outer s H E').nox) 13 l := (lks_cons
        (LamK.mk' (p := (arg0 (cmpR (ifTest ((ifBody ((forBody ((forBody ((defBody s_law).getD 1 (.Pass ⟨0, 0, 0, 0⟩))).getD 4 (.Pass ⟨0, 0, 0, 0⟩))).getD 1 (.Pass ⟨0, 0, 0, 0⟩))).getD 0 (.Pass ⟨0, 0, 0, 0⟩)))))) (lam1_by (N := ["script", "bag", "turn", "rows", "pair", "source", "run", "plain", "done", "k", "pick", "line"]) (sc := defScope s_law) (scope := lamS (arg0 (cmpR (ifTest ((ifBody ((forBody ((forBody ((defBody s_law).getD 1 (.Pass ⟨0, 0, 0, 0⟩))).getD 4 (.Pass ⟨0, 0, 0, 0⟩))).getD 1 (.Pass ⟨0, 0, 0, 0⟩))).getD 0 (.Pass ⟨0, 0, 0, 0⟩)))))) (by decide +kernel)) (show BindL (lamP (arg0 (cmpR (ifTest ((ifBody ((forBody ((forBody ((defBody s_law).getD 1 (.Pass ⟨0, 0, 0, 0⟩))).getD 4 (.Pass ⟨0, 0, 0, 0⟩))).getD 1 (.Pass ⟨0, 0, 0, 0⟩))).getD 0 (.Pass ⟨0, 0, 0, 0⟩)))))) (lamB (arg0 (cmpR (ifTest ((ifBody ((forBody ((forBody ((defBody s_law).getD 1 (.Pass ⟨0, 0, 0, 0⟩))).getD 4 (.Pass ⟨0, 0, 0, 0⟩))).getD 1 (.Pass ⟨0, 0, 0, 0⟩))).getD 0 (.Pass ⟨0, 0, 0, 0⟩)))))) (lamS (arg0 (cmpR (ifTest ((ifBody ((forBody ((forBody ((defBody s_law).getD 1 (.Pass ⟨0, 0, 0, 0⟩))).getD 4 (.Pass ⟨0, 0, 0, 0⟩))).getD 1 (.Pass ⟨0, 0, 0, 0⟩))).getD 0 (.Pass ⟨0, 0, 0, 0⟩)))))) true from ⟨"a", by decide +kernel, fun _ _ _ _ _ _ => ⟨_, rfl, fun _ => rfl⟩⟩) (fun A2 outer2 s2 H2 E2 f2 c2 hr2 => (pe_mG0 (pv 7) (En.cls_Runner E) (En.meth_Runner_back E) G_Runner_back (hr2.mono (by decide)) (passes_call (E := E2) (takes_of (E := E2) rfl rfl rfl rfl) fun _ _ _ _ h => h))))
        lks_nil)
    refine ⟨_, PSs.nox (pss_cons (ps_set (i := 1) sc_law.nd rfl (by first | exact Or.inl rfl | exact Or.inr rfl) (pe_G G__law_bag (hr.mono (by decide)) rfl pass0 (pa_cons (pv 0) pa_nil)))
      (pss_cons (ps_for PassesOwn.never rfl (pi_range1 (by rfl) (E.fr "range") (pa_cons pe_int pa_nil)) (pg_name (i := 2) sc_law.nd rfl (by first | exact Or.inl rfl | exact Or.inr rfl))
        (pss_cons (ps_par (i := 3) (j := 4) rfl sc_law.nd rfl rfl (by decide) rfl rfl (pa_cons (pe_G G__law_lines (hr.mono (by decide)) rfl pass0 (pa_cons (pv 1) (pa_cons pe_int (pa_cons pe_str pa_nil)))) (pa_cons (pe_G G__law_pair (hr.mono (by decide)) rfl pass0 (pa_cons (pv 1) (pa_cons pe_int pa_nil))) pa_nil)) rfl)
      (pss_cons (ps_set (i := 5) sc_law.nd rfl (by first | exact Or.inl rfl | exact Or.inr rfl) (pe_G G__law_program (hr.mono (by decide)) rfl pass0 (pa_cons (pv 3) pa_nil)))
      (pss_cons (ps_asg (pe_tup (pa_cons (pe_mkG (En.mkr_CountingRunner E) G_CountingRunner___init__ (hr.mono (by decide)) rfl (E.gl "CountingRunner") pass0 (pa_cons (pv 5) (pa_cons (pv 4) pa_nil))) (pa_cons (pe_mkG (En.mkr_Runner E) G_Runner___init__.1 (hr.mono (by decide)) rfl (E.gl "Runner") pass0 (pa_cons (pv 5) (pa_cons (pv 4) pa_nil))) (pa_cons (pe_lst pa_nil) pa_nil)))) (pg_tup rfl (pgs_cons (pg_name (i := 6) sc_law.nd rfl (by first | exact Or.inl rfl | exact Or.inr rfl)) (pgs_cons (pg_name (i := 7) sc_law.nd rfl (by first | exact Or.inl rfl | exact Or.inr rfl)) (pgs_cons (pg_name (i := 8) sc_law.nd rfl (by first | exact Or.inl rfl | exact Or.inr rfl)) pgs_nil)))))
      (pss_cons (ps_if (PW.pt (pw_or (pt_not (pt_val (pe_callB (call_isD (En.ins_CountingRunner E) (En.isk_CountingRunner_Runner E)) (by rfl) (E.fr "isinstance") (by decide +kernel) (pa_cons (pv 6) (pa_cons (pe_glob rfl (E.gl "Runner") (show RelV (V.ref (He.ga K "Runner")) _ from rfl)) pa_nil))))) (pw_or1 (pt_val (pe_callB (call_isD (En.ins_Runner E) (En.isn_Runner_CountingRunner E)) (by rfl) (E.fr "isinstance") (by decide +kernel) (pa_cons (pv 7) (pa_cons (pe_glob rfl (E.gl "CountingRunner") (show RelV (V.ref (He.ga K "CountingRunner")) _ from rfl)) pa_nil)))))))
        (pss_one (ps_ret pe_bl))
        pss_nil)
      (pss_one (ps_for PassesOwn.never rfl (pi_range1 (by rfl) (E.fr "range") (pa_cons (pe_G G__law_pull (hr.mono (by decide)) rfl pass0 (pa_cons (pv 1) (pa_cons pe_int pa_nil))) pa_nil)) (pg_name (i := 9) sc_law.nd rfl (by first | exact Or.inl rfl | exact Or.inr rfl))
        (pss_cons (ps_set (i := 10) sc_law.nd rfl (by first | exact Or.inl rfl | exact Or.inr rfl) (pe_G G__law_pull (hr.mono (by decide)) rfl pass0 (pa_cons (pv 1) (pa_cons pe_int pa_nil))))
      (pss_cons (ps_if (pt_cmpR op_eq (pe_G G__law_pull (hr.mono (by decide)) rfl pass0 (pa_cons (pv 1) (pa_cons pe_int pa_nil))) pe_int (nomark _))
        (pss_cons (ps_if (pt_cmpR (op_neD hu64) (pe_T G__law_try rfl TB rfl (hr.mono (by decide)) (j := 13) (by decide) (LamX.lamS_by (sc := defScope s_law) (by decide +kernel)) (by rfl) (fun _ _ _ _ _ => rfl) (fun A2 outer2 s2 H2 E2 f2 c2 hr2 => (pe_mG0 (pv 6) (En.cls_CountingRunner E) (En.meth_CountingRunner_back E) G_CountingRunner_back (hr2.mono (by decide)) (passes_call (E := E2) (takes_of (E := E2) rfl rfl rfl rfl) fun _ _ _ _ h => h)))) (pe_TvX G__law_try rfl (hr.mono (by decide)) (j := 13) (by decide) hls1 (pe_lam1 TB rfl (Lam1.free (lam1_by (N := ["script", "bag", "turn", "rows", "pair", "source", "run", "plain", "done", "k", "pick", "line"]) (sc := defScope s_law) (by decide +kernel))) (by rfl) rfl pe_int)) (nomark _))
        (pss_one (ps_ret pe_bl))
        pss_nil)
      (pss_one (ps_set (i := 8) sc_law.nd rfl (by first | exact Or.inl rfl | exact Or.inr rfl) (pe_slice sl_list (pv 8) po_none (po_some (pe_un un_neg pe_int))))))
        (pss_one (ps_if (pt_cmpR op_isN (pe_propI (pv 6) (En.cls_CountingRunner E) (En.prop_CountingRunner_outcome E) (En.psame_CountingRunner_Runner_outcome E) G_Runner_outcome (hr.mono (by decide)) pass0 rfl) pe_non (nomark _))
        (pss_cons (ps_set (i := 8) sc_law.nd rfl (by first | exact Or.inl rfl | exact Or.inr rfl) (pe_op op_cat (pv 8) (pe_lst (pa_cons (pe_mGN0 (pv 6) (En.cls_CountingRunner E) (En.meth_CountingRunner_step E) G_CountingRunner_step (hr.mono (by decide)) pass0 (pk_cons (pv 10) pk_nil)) pa_nil))))
      (pss_one (ps_expr (pe_mGN0 (pv 7) (En.cls_Runner E) (En.meth_Runner_step E) G_Runner_step.1 (hr.mono (by decide)) passF (pk_cons (pv 10) pk_nil)))))
        pss_nil)))
      (pss_cons (ps_if (pt_not (pt_val (pe_G G__law_same (hr.mono (by decide)) rfl pass0 (pa_cons (pe_mG0 (pv 6) (En.cls_CountingRunner E) (En.meth_CountingRunner_counts E) G_CountingRunner_counts (hr.mono (by decide)) pass0) (pa_cons (pe_lc (own := [("line", 11)]) (by rfl) sc_law.nd (pi_range1 (by rfl) (E.fr "range") (pa_cons (pe_callB call_len_seq (by rfl) (E.fr "len") (by decide +kernel) (pa_cons (pv 3) pa_nil)) pa_nil)) (blkOk_by (N := ["script", "bag", "turn", "rows", "pair", "source", "run", "plain", "done", "k", "pick", "line"]) (sc := defScope s_law) (by decide +kernel)) (by exact fun _ _ _ _ _ => (pg_name (i := 11) sc_law.nd rfl (by first | exact Or.inl rfl | exact Or.inr rfl))) (by exact fun _ _ _ _ _ => pts_nil) (by exact fun _ _ _ _ _ => (show PE _ _ (tBM K "list" (rCntI K) _ _) from pe_bm PySem.F.plainAttrs_list PySem.F.slot_list_count PySem.F.type_list_count mt_lcount (pv 8) (pa_cons (pv 11) pa_nil)))) pa_nil)))))
        (pss_one (ps_ret pe_bl))
        pss_nil)
      (pss_cons (ps_expr (pe_bm PySem.F.plainAttrs_list PySem.F.slot_list_append PySem.F.type_list_append mt_append (pe_mG0 (pv 6) (En.cls_CountingRunner E) (En.meth_CountingRunner_counts E) G_CountingRunner_counts (hr.mono (by decide)) pass0) (pa_cons pe_non pa_nil)))
      (pss_one (ps_if (pt_not (pt_val (pe_G G__law_same (hr.mono (by decide)) rfl pass0 (pa_cons (pe_lst (pa_cons (pe_propI (pv 6) (En.cls_CountingRunner E) (En.prop_CountingRunner_pair E) (En.psame_CountingRunner_Runner_pair E) G_Runner_pair (hr.mono (by decide)) pass0 rfl) (pa_cons (pe_propI (pv 6) (En.cls_CountingRunner E) (En.prop_CountingRunner_at E) (En.psame_CountingRunner_Runner_at E) G_Runner_at (hr.mono (by decide)) pass0 rfl) (pa_cons (pe_propI (pv 6) (En.cls_CountingRunner E) (En.prop_CountingRunner_outcome E) (En.psame_CountingRunner_Runner_outcome E) G_Runner_outcome (hr.mono (by decide)) pass0 rfl) (pa_cons (pe_propI (pv 6) (En.cls_CountingRunner E) (En.prop_CountingRunner_steps E) (En.psame_CountingRunner_Runner_steps E) G_Runner_steps (hr.mono (by decide)) pass0 rfl) pa_nil))))) (pa_cons (pe_lst (pa_cons (pe_propG (pv 7) (En.cls_Runner E) (En.prop_Runner_pair E) G_Runner_pair (hr.mono (by decide)) pass0 rfl) (pa_cons (pe_propG (pv 7) (En.cls_Runner E) (En.prop_Runner_at E) G_Runner_at (hr.mono (by decide)) pass0 rfl) (pa_cons (pe_propG (pv 7) (En.cls_Runner E) (En.prop_Runner_outcome E) G_Runner_outcome (hr.mono (by decide)) pass0 rfl) (pa_cons (pe_callB call_len_seq (by rfl) (E.fr "len") (by decide +kernel) (pa_cons (pv 8) pa_nil)) pa_nil))))) pa_nil)))))
        (pss_one (ps_ret pe_bl))
        pss_nil)))))))))))))
      (pss_one (ps_ret pe_bl)))), ?_⟩
    obtain ⟨a, ns, rfl, hT, hS, hl, k⟩ := h
    have z0 : 0 ≤ sizeLine := by decide
    have z1 : 1 ≤ sizeLine := by decide
    have z2 : 2 ≤ sizeLine := by decide
    have z3 : 3 ≤ sizeLine := by decide
    have z4 : 4 ≤ sizeLine := by decide
    have rc : RCls K (He.ga K "Runner") := ⟨En.cls_Runner E, En.noat_Runner_source E, En.noat_Runner_rows E, En.noat_Runner_state E, En.noat_Runner_past E⟩
    refine ⟨_, rfl, a, ns, rfl, hS, hl, fun b H1 hb B e1 => ?_⟩
    have T1 : LamX.Tabs (t19 K) H1 := (tabs_one hT).ext e1
    refine ⟨3, rfl, by decide, by decide, for_range (lo := 0) (n := 3) (fun _ σ H' => ∃ s2 s3 s4 s5 s6 s7 s8 s9 s10 s11 : Option V, σ = [some (.ref a), some (.ref b), s2, s3, s4, s5, s6, s7, s8, s9, s10, s11] ∧ Bag H' b ∧ LamX.Tabs (t19 K) H') ⟨_, _, _, _, _, _, _, _, _, _, rfl, B, T1⟩ ?_ ?_⟩
    rotate_left
    · rintro σ H2 ⟨_, _, _, _, _, _, _, _, _, _, rfl, B2, T2⟩
      exact k _
    rintro i0 σ H2 _ ⟨s2, s3, s4, s5, s6, s7, s8, s9, s10, s11, rfl, B2, T2⟩
    -- rows, pair
    refine ⟨_, rfl, b, 6, _, rfl, B2, by decide, by decide, fun l us ls H3 hlH hL hA l0 l7 hok B3 k3 => ?_⟩
    have T3 := tabs_sameT (B2.sameT k3) T2
    have nlb : l ≠ b := B2.ne hlH
    refine ⟨_, rfl, b, 12, rfl, B3, by decide, by decide, fun v x y H6 hp nz _ _ B6 k4 => ?_⟩
    have st36 := B3.sameT k4
    have T6 := tabs_sameT st36 T3
    have hL6 := k4.kp _ _ nlb hL
    have hA6 := Dp.sameTs st36 (lin_nls ls) hA
    clear T1 T2 T3 k3 k4 st36 hA hL hlH B2 B3 e1
    -- source
    refine ⟨_, _, rfl, _, rfl, l, us, ls, rfl, hL6, hA6, hok, l0, by omega, fun p H7 e7 P7 => ?_⟩
    have hp7 := hp.same e7
    have hL7 := e7 _ _ hL6
    have B7 := B6.keep e7
    have T7 := T6.ext e7
    clear hp hL6 hA6 B6 T6 e7
    -- run
    refine ⟨_, rfl, _, rfl, fun xr dx hx hdx hn => ?_⟩
    have f1 : Same H7 (upd (upd H7 dx (.own xr)) xr (.ins (He.ga K "CountingRunner") dx [])) := (same_new hdx).trans (same_new (by rw [upd_ne hn.symm]; exact hx))
    refine ⟨xr, dx, p, v, us, ls, x, y, rfl, upd_same, P7.same f1, hp7.same f1, nz, fun pl rl dl H8 off hpl hrl hdl C8 => ⟨rfl, ?_⟩⟩
    have e8 : Same H7 H8 := Off.same f1 hx off
    have npl : H7 pl = none := old_none f1 hpl
    have nrl : H7 rl = none := old_none f1 hrl
    have ndl : H7 dl = none := old_none f1 hdl
    obtain ⟨c0, q0, hb0, o0, hc0⟩ := B7.inn
    have hb8 := e8 _ _ hb0
    have hc8 := e8 _ _ hc0
    have hL8 := e8 _ _ hL7
    have P8 := P7.same e8
    have hp8 := hp7.same e8
    clear f1 off hpl hrl hdl P7 hp7 hdx hn
    -- plain
    refine ⟨_, rfl, _, rfl, fun xp dp hx2 hdx2 hn2 => ?_⟩
    have f2 : Same H8 (upd (upd H8 dp (.own xp)) xp (.ins (He.ga K "Runner") dp [])) := (same_new hdx2).trans (same_new (by rw [upd_ne hn2.symm]; exact hx2))
    refine ⟨xp, dp, p, _, v, us, ls, x, y, rfl, rc, upd_same, P8.same f2, hp8.same f2, nz, fun pp rp H9 off2 hpp hrp R9 => ⟨rfl, ?_⟩⟩
    have e9 : Same H8 H9 := Off.same f2 hx2 off2
    have npp : H8 pp = none := old_none f2 hpp
    have nrp : H8 rp = none := old_none f2 hrp
    obtain ⟨_, _, ps8, hi8, _, hpl8, _⟩ := C8.run.ex
    have n19 : N19 b c0 xr pl rl dl xp pp rp p l := ⟨ne_of_none hb0 hx, ne_of_none hb0 npl, ne_of_none hb0 ndl, ne_of_none hb0 nrl, ne_of_none hb8 hx2, ne_of_none hb8 npp, ne_of_none hb8 nrp, ne_of_none hc0 hx, ne_of_none hc0 npl, ne_of_none hc0 ndl, ne_of_none hc8 hx2, ne_of_none hc8 npp,
      ne_of_none hL7 hx, ne_of_none hL7 npl, ne_of_none hL7 ndl, ne_of_none hL8 hx2, ne_of_none hL8 npp, nlb, ne_of_none hi8 hx2, ne_of_none hpl8 npp, ne_of_none C8.don npp, ne_of_none C8.run.rows npp, (ne_of_none hpl8 nrp).symm, (ne_of_none C8.don nrp).symm⟩
    have ok0 : RSt.Ok ls.length ⟨0, x, y, [0, 0, 0], none⟩ := ⟨rfl, fun z hz => by simp at hz; omega, Nat.zero_le _, fun _ => l0, fun z hz => by cases hz⟩
    have C9 := C8.same e9
    have B9 := (B7.keep e8).keep e9
    have T9 := (T7.ext e8).ext e9
    have hb9 := e9 _ _ hb8
    have hL9 := e9 _ _ hL8
    clear B7 T7 hb0 o0 hc0 hb8 hc8 hL8 hL7 P8 hp8 f2 off2 hpp hrp npp nrp hi8 hpl8 C8 e8 e9 hx hx2 hdx2 hn2 npl nrl ndl
    refine ⟨z0, fun dn hdn => ⟨z3, fun t3 ht3 => ?_⟩⟩
    have g3 := same_new (o := .lst []) hdn
    have g4 := same_new (o := .tup [V.ref xr, .ref xp, .ref dn]) ht3
    refine ⟨t3, _, rfl, SqT.of upd_same, rfl, _, _, rfl, _, _, rfl, _, _, rfl, rfl, ?_⟩
    obtain ⟨_, _, _, hiC, _, hplC, _⟩ := C9.run.ex
    obtain ⟨_, _, _, hiR, _, hplR, _⟩ := R9.ex
    have g9 : G19 K (upd H9 dn (.lst [])) b c0 xr pl rl dl xp pp rp p l dn us ls ⟨0, x, y, [0, 0, 0], none⟩ [] := ⟨B9.keep g3, ⟨q0, g3 _ _ hb9⟩, T9.ext g3, C9.same g3, R9.same g3, g3 _ _ hL9, upd_same, B9.ne hdn, (ne_of_none hiC hdn).symm, (ne_of_none hplC hdn).symm, (ne_of_none C9.don hdn).symm, (ne_of_none hiR hdn).symm, (ne_of_none hplR hdn).symm, ok0, fun t ht => absurd ht List.not_mem_nil⟩
    have gA := g9.same g4
    clear g9 C9 R9 B9 T9 hb9 hL9 g3 hiC hplC hiR hplR ok0
    generalize upd (upd H9 dn _) t3 _ = HA at *
    clear g4 ht3 hdn
    -- the classes
    obtain ⟨dxr, _, _, hir, _⟩ := gA.cou.run.ex
    obtain ⟨dxp, _, _, hip, _⟩ := gA.run.ex
    refine ⟨_, rfl, xr, dxr, _, rfl, hir, _, rfl, ite_f rfl ⟨_, rfl, xp, dxp, _, rfl, hip, _, rfl, ite_f rfl ?_⟩⟩
    -- the steps
    refine ⟨_, rfl, b, 40, rfl, gA.bag, by decide, by decide, fun r H10 r0 r31 B10 k10 => ?_⟩
    obtain ⟨n, rfl⟩ := Int.eq_ofNat_of_zero_le r0
    have hn40 : n ≤ 40 := by have : (n : Int) < 40 := r31; omega
    refine ⟨_, rfl, by omega, by omega, for_range (lo := 0) (n := n) (fun j σ H' => ∃ (s : RSt) (hs : List RSt) (dn : Addr) (s9 s10 s11 : Option V), σ = [some (.ref a), some (.ref b), some (.int (0 + (i0 : Int))), some (.ref l), some v, some (.ref p), some (.ref xr), some (.ref xp), some (.ref dn), s9, s10, s11] ∧ hs.length ≤ j ∧ G19 K H' b c0 xr pl rl dl xp pp rp p l dn us ls s hs)
      ⟨_, [], dn, _, _, _, rfl, Nat.zero_le _, gA.kp n19 B10 k10⟩ ?_ ?_⟩
    rotate_left
    · rintro σ H11 ⟨s, hs, dn, s9, s10, s11, rfl, _, g⟩
      exact ⟨_, _, _, _, _, _, _, _, _, _, rfl, g.bag, g.tab⟩
    clear gA B10 k10 hir hip
    rintro j σ H11 hj ⟨s, hs, dn, s9, s10, s11, rfl, hsj, g⟩
    have hj : j < n := hj
    refine ⟨_, rfl, b, 2, rfl, g.bag, by decide, by decide, fun r H12 r0 r2 B12 k12 => ?_⟩
    obtain ⟨pk, rfl⟩ : ∃ pk : Bool, r = (if pk = true then 1 else 0) := by
      have : r = 0 ∨ r = 1 := by omega
      rcases this with h | h
      · exact ⟨false, h⟩
      · exact ⟨true, h⟩
    have g12 := g.kp n19 B12 k12
    clear g B12 k12 r0 r2
    dsimp only
    refine seq_split (R := fun σ' H' => ∃ (s : RSt) (hs : List RSt) (dn : Addr) (s10 s11 : Option V), σ' = [some (.ref a), some (.ref b), some (.int (0 + (i0 : Int))), some (.ref l), some v, some (.ref p), some (.ref xr), some (.ref xp), some (.ref dn), some (.int (0 + (j : Int))), s10, s11] ∧ hs.length ≤ j + 1 ∧ G19 K H' b c0 xr pl rl dl xp pp rp p l dn us ls s hs) ?_ ?_
    · clear g12 hsj s9 s10 s11 dn hs s
      rintro σ' H13 ⟨s, hs, dn, s10, s11, rfl, hsj, g⟩
      obtain ⟨dxr, _, _, hir, _⟩ := g.cou.run.ex
      refine ⟨_, rfl, xr, dxr, _, rfl, hir, rfl, xr, pl, rl, p, dl, us, ls, s, hs, rfl, g.cou, fun q hq => ?_⟩
      have eq := same_new (o := .lst ((cntL ls.length hs).map fun n : Nat => V.int (n : Int))) hq
      have hq1 := upd_same (a := q) (o := HO.lst ((cntL ls.length hs).map fun n : Nat => V.int (n : Int))) (H := H13)
      have g1 := g.same eq
      generalize upd H13 q _ = H14 at *
      clear g eq hq hir
      have hul := g1.run.prog.len
      have l60 := g1.run.prog.l1
      refine ⟨_, rfl, l, us, rfl, .inl (SqL.of g1.row), _, rfl, by omega, by omega, fun D hD0 => ?_⟩
      refine lc_range (n := us.length) (fun i H' => Same H14 H' ∧ H' D = some (.lst (((List.range i).map fun e : Nat => (hs.countP fun t => t.at_ == e)).map fun n : Nat => V.int (n : Int)))) ⟨same_new hD0, upd_same⟩ ?_ ?_
      · rintro i H15 hi ⟨e15, hD⟩
        refine ⟨rfl, _, rfl, .inl ⟨rfl, _, SqL.of (e15 _ _ g1.don)⟩, _, rfl, dn, hs.map fun t => (t.at_ : Int), 0 + (i : Int), rfl, rfl, SqL.of (e15 _ _ g1.don), _, hD, ?_, same_mut e15 hD0, ?_⟩
        · rw [List.length_map, List.length_map, List.length_range]
          exact szl (by omega)
        · rw [upd_same, List.range_succ, List.map_append, List.map_append, Int.zero_add, cnt_at]
          rfl
      rintro H15 ⟨e15, hD⟩
      have g2 := g1.same e15
      have ec : (cntL ls.length hs).map (fun n : Nat => V.int (n : Int)) = ((cntL ls.length hs).map fun n : Nat => (n : Int)).map V.int := by
        rw [List.map_map]
        rfl
      have hDD : H15 D = some (.lst (((cntL ls.length hs).map fun n : Nat => (n : Int)).map V.int)) := by
        rw [hD, ← ec, hul]
        rfl
      have hqq := e15 _ _ hq1
      rw [ec] at hqq
      have lenc : ((cntL ls.length hs).map fun n : Nat => (n : Int)).length ≤ 60 := by rw [List.length_map, cntL_len]; omega
      refine ⟨.ref q, .ref D, .list (((cntL ls.length hs).map fun n : Nat => (n : Int)).map PyData.int), rfl, .lst (SqL.of hqq) (ints_dp _ _ _), .lst (SqL.of hDD) (ints_dp _ _ _), ?_, ?_, fun H16 e16 => ⟨_, rfl, ite_f rfl ?_⟩⟩
      · simp only [PyData.depth, ints_dep]
        omega
      · show smallD (.list _) = true
        rw [smallD, ints_small, List.length_map]
        simp
        rw [cntL_len]
        omega
      have g3 := g2.same e16
      clear g1 g2 hq1 hqq hDD hD e15 e16 ec lenc hD0
      -- a list of its own
      obtain ⟨dxr, _, _, hir, _⟩ := g3.cou.run.ex
      refine ⟨_, rfl, xr, dxr, _, rfl, hir, rfl, xr, pl, rl, p, dl, us, ls, s, hs, rfl, g3.cou, fun q hq => ?_⟩
      have eq := same_new (o := .lst ((cntL ls.length hs).map fun n : Nat => V.int (n : Int))) hq
      refine ⟨.inl ⟨rfl, _, SqL.of upd_same⟩, q, _, _, rfl, rfl, upd_same, szl (by rw [List.length_map, cntL_len]; omega), ?_⟩
      have g4 := g3.same (same_mut (o := .lst ((cntL ls.length hs).map (fun n : Nat => V.int (n : Int)) ++ [V.non])) eq hq)
      clear g3 eq hir
      generalize upd (upd H16 q _) q _ = H17 at *
      clear hq
      -- alike
      obtain ⟨dxr, _, _, hir, _⟩ := g4.cou.run.ex
      obtain ⟨dxp, _, _, hip, _⟩ := g4.run.ex
      have RC : RunX K (He.ga K "CountingRunner") H17 xr s hs := ⟨_, _, _, _, _, _, g4.cou.run⟩
      have RP : RunX K (He.ga K "Runner") H17 xp s hs := ⟨_, _, _, _, _, _, g4.run⟩
      refine ⟨_, rfl, xr, dxr, _, rfl, hir, xr, _, s, hs, rfl, RC, fun v1 hv1 => ⟨_, rfl, xr, dxr, _, rfl, hir, xr, _, s, hs, rfl, RC, ⟨_, rfl, xr, dxr, _, rfl, hir, xr, _, s, hs, rfl, RC, ⟨_, rfl, xr, dxr, _, rfl, hir, xr, _, s, hs, rfl, RC, z4, fun q1 hq1 => ?_⟩⟩⟩⟩
      have eq1 := same_new (o := .lst [v1, atV s, outV s.out, .int (hs.length : Int)]) hq1
      have hl1 := upd_same (a := q1) (o := HO.lst [v1, atV s, outV s.out, .int (hs.length : Int)]) (H := H17)
      have g5 := g4.same eq1
      have RP5 : RunX K (He.ga K "Runner") _ xp s hs := ⟨_, _, _, _, _, _, g5.run⟩
      have hip5 := eq1 _ _ hip
      have hv15 := hv1.same eq1
      generalize upd H17 q1 _ = H18 at *
      clear g4 eq1 hir hip RC RP hq1 hv1
      refine ⟨_, rfl, xp, dxp, _, rfl, hip5, xp, _, s, hs, rfl, RP5, fun v2 hv2 => ⟨_, rfl, xp, dxp, _, rfl, hip5, xp, _, s, hs, rfl, RP5, ⟨_, rfl, xp, dxp, _, rfl, hip5, xp, _, s, hs, rfl, RP5, ⟨_, rfl, dn, _, rfl, .inl (SqL.of g5.don), z4, fun q2 hq2 => ?_⟩⟩⟩⟩
      rw [List.length_map, List.length_map]
      have eq2 := same_new (o := .lst [v2, atV s, outV s.out, .int (hs.length : Int)]) hq2
      obtain ⟨da, da1, da2, da3⟩ := at_data s
      have hout := out_data s
      refine ⟨.ref q1, .ref q2, .list [.tuple [.int (s.x : Int), .int (s.y : Int)], da, outD s.out, .int (hs.length : Int)], rfl,
        .lst (SqL.of (eq2 _ _ hl1)) (.cons (pairD_dp (hv15.same eq2)) (.cons (da1 _ _) (.cons (out_dp _) (.cons (.int _) .nil)))),
        .lst (SqL.of upd_same) (.cons (pairD_dp (hv2.same eq2)) (.cons (da1 _ _) (.cons (out_dp _) (.cons (.int _) .nil)))), dep4 da2 hout.1, sma4 da3 hout.2, fun H19 e19 => ⟨_, rfl, ite_f rfl ?_⟩⟩
      exact ⟨s, hs, dn, _, _, _, rfl, hsj, g5.same (eq2.trans e19)⟩
    · intro D1 hD
      refine ⟨_, rfl, b, 4, rfl, g12.bag, by decide, by decide, fun r H13 _ _ B13 k13 => ⟨rfl, _, rfl, ?_⟩⟩
      have g := g12.kp n19 B13 k13
      clear g12 B13 k13
      have hokc : ∀ t ∈ hs, t.out = none ∧ t.at_ < ls.length := fun t ht => ⟨(g.hok t ht).1, (g.hok t ht).2.2⟩
      have eN : ∀ {Q : VK} {H1 : Hp} {d : Addr}, H1 d = none → (∀ p1 H', Same H1 H' → H' p1 = some (.tup [.str "NothingLeft", .non]) → Q (.ref p1) H') → ETryN K (He.ga K "PathError") (He.ga K "Missing") (He.ga K "NothingLeft") Q (.ref (He.ga K "NothingLeft")) (some d) (upd H1 d (.xd [("tag", .str "NothingLeft")])) := fun {Q H1 d} hd k =>
        .inr ⟨_, d, _, "NothingLeft", rfl, rfl, En.exn_NothingLeft_PathError E, En.exn_NothingLeft_Missing E, En.exm_NothingLeft_NothingLeft E, upd_same, En.xf_NothingLeft E, En.xno_NothingLeft_tag E, rfl, fun H5 e5 p1 hp1 => k p1 _ ((same_new hd).trans (e5.trans (same_new hp1))) upd_same⟩
      by_cases c : r = 0
      · refine ite_t (decide_eq_true (by rw [c])) ?_
        refine ⟨g.tab, fun H15 e15 T15 => ?_⟩
        have g1 := g.extN e15 T15
        clear g e15 T15
        obtain ⟨dxr, _, _, hir, _⟩ := g1.cou.run.ex
        rcases (show hs = [] ∨ ∃ hs' t, hs = hs' ++ [t] by
          rcases List.eq_nil_or_concat hs with h | ⟨a, b, h⟩
          · exact .inl h
          · exact .inr ⟨a, b, by rw [h, List.concat_eq_append]⟩) with rfl | ⟨hs', t, rfl⟩
        · refine ⟨_, rfl, xr, dxr, _, rfl, hir, rfl, xr, pl, rl, p, dl, us, ls, s, [], rfl, g1.cou, Nat.zero_le _, hokc, .inl ⟨rfl, fun H4 e4 d hd0 => eN hd0 fun p1 H5 e5 hp1 => ?_⟩⟩
          have g2 := g1.same (e4.trans e5)
          clear g1 hir
          refine ⟨g2.tab, fun H6 f1 e6 T6 L1 m1 => ⟨f1, _, _, rfl, .head _, rfl, L1, ?_⟩⟩
          have g3 := g2.extN e6 T6
          have hp1' := e6 _ _ hp1 (fun _ z => by cases z)
          obtain ⟨dxp, _, _, hip, _⟩ := g3.run.ex
          refine ⟨_, rfl, xp, dxp, _, rfl, hip, rfl, xp, pp, rp, p, _, [], us, ls, s, [], rfl, g3.run, Nat.zero_le _, fun t ht => absurd ht List.not_mem_nil, .inl ⟨rfl, fun H7 e7 d hd1 => eN hd1 fun p2 H8 e8 hp2 => ?_⟩⟩
          have g4 := g3.same (e7.trans e8)
          refine ⟨.tuple [.str "NothingLeft", .none], .tuple [.str "NothingLeft", .none], .tup (SqT.of ((e7.trans e8) _ _ hp1')) (.cons (.str _) (.cons .non .nil)), .tup (SqT.of hp2) (.cons (.str _) (.cons .non .nil)), by decide +kernel, by decide +kernel, _, rfl, ite_f (by decide +kernel) ?_⟩
          refine ⟨_, rfl, _, rfl, _, rfl, dn, _, rfl, SqL.of g4.don, fun q hq => ?_⟩
          have eq := same_new (o := .lst (cutV (([] : List RSt).map (fun t => (t.at_ : Int)) |>.map V.int) none (some (-1)))) hq
          obtain ⟨_, _, _, hiC, _, hplC, _⟩ := g4.cou.run.ex
          obtain ⟨_, _, _, hiR, _, hplR, _⟩ := g4.run.ex
          have g5 := g4.same eq
          exact hD _ _ ⟨s, [], q, _, _, rfl, Nat.zero_le _, g5.bag, g5.inn, g5.tab, g5.cou, g5.run, g5.row, upd_same, g4.bag.ne hq, (ne_of_none hiC hq).symm, (ne_of_none hplC hq).symm, (ne_of_none g4.cou.don hq).symm, (ne_of_none hiR hq).symm, (ne_of_none hplR hq).symm, g5.sok, g5.hok⟩
        rw [List.length_append] at hsj
        have hsj : hs'.length + 1 ≤ j := hsj
        have tok := g1.hok t (List.mem_append_right _ List.mem_cons_self)
        have hok' : ∀ u ∈ hs', u.out = none ∧ u.Ok ls.length ∧ u.at_ < ls.length := fun u hu => g1.hok u (List.mem_append_left _ hu)
        refine ⟨_, rfl, xr, dxr, _, rfl, hir, rfl, xr, pl, rl, p, dl, us, ls, s, _, rfl, g1.cou, by rw [List.length_append]; show hs'.length + 1 ≤ 1000; omega, hokc, .inr ⟨hs', t, rfl, fun H4 m C4 => ⟨z2, fun p1 hp1 => ?_⟩⟩⟩
        obtain ⟨M4, hdn⟩ := g1.mvC n19 m C4
        have d1 := g1.d1; have d2 := g1.d2; have d3 := g1.d3; have d4 := g1.d4; have d5 := g1.d5; have d6 := g1.d6
        have ep := same_new (o := .tup [V.str "value", .int (t.at_ : Int)]) hp1
        have hp1' := upd_same (a := p1) (o := HO.tup [V.str "value", .int (t.at_ : Int)]) (H := H4)
        have M5 := M4.same ep
        have hdn5 := ep _ _ hdn
        generalize upd H4 p1 _ = H5 at *
        clear g1 M4 hdn ep hir m C4 hp1
        refine ⟨M5.tab, fun H6 f1 e6 T6 L1 m1 => ⟨f1, _, _, rfl, .head _, rfl, L1, ?_⟩⟩
        have M6 := M5.extN e6 T6
        have hdn6 := e6 _ _ hdn5 (fun _ z => by cases z)
        have hp16 := e6 _ _ hp1' (fun _ z => by cases z)
        clear M5 hdn5 hp1' e6 L1 m1
        obtain ⟨dxp, _, _, hip, _, hpp, _⟩ := M6.run.ex
        refine ⟨_, rfl, xp, dxp, _, rfl, hip, rfl, xp, pp, rp, p, _, [], us, ls, s, _, rfl, M6.run, by rw [List.length_append]; show hs'.length + 1 ≤ 1000; omega, fun u hu => (hokc u hu).1, .inr ⟨hs', t, rfl, fun H7 m7 R7 => ⟨z2, fun p2 hp2 => ?_⟩⟩⟩
        have M7 := M6.follow (dm := dn) n19 m7 R7
        have hdn7 := m7 _ _ d5 d6 hdn6
        have hp17 := m7 _ _ (fun z => by rw [z, hip] at hp16; cases hp16) (fun z => by rw [z, hpp] at hp16; cases hp16) hp16
        have ep2 := same_new (o := .tup [V.str "value", .int (t.at_ : Int)]) hp2
        have M8 := M7.same ep2
        have hdn8 := ep2 _ _ hdn7
        refine ⟨.tuple [.str "value", .int (t.at_ : Int)], .tuple [.str "value", .int (t.at_ : Int)], .tup (SqT.of (ep2 _ _ hp17)) (.cons (.str _) (.cons (.int _) .nil)), .tup (SqT.of upd_same) (.cons (.str _) (.cons (.int _) .nil)), sh_val _, sh_val _, _, rfl, ite_f (by rw [eqv_val]; rfl) ?_⟩
        refine ⟨_, rfl, _, rfl, _, rfl, dn, _, rfl, SqL.of hdn8, fun q hq => ?_⟩
        have eq := same_new (o := .lst (cutV (((hs' ++ [t]).map fun t => (t.at_ : Int)).map V.int) none (some (-1)))) hq
        have ecut : cutV (((hs' ++ [t]).map fun t => (t.at_ : Int)).map V.int) none (some (-1)) = (hs'.map fun t => (t.at_ : Int)).map V.int := by
          rw [cut_last (by simp), List.map_append, List.map_append, List.length_append]
          exact List.take_left' rfl
        obtain ⟨_, _, _, hiC, _, hplC, _⟩ := M8.cou.run.ex
        obtain ⟨_, _, _, hiR, _, hplR, _⟩ := M8.run.ex
        have M9 := M8.same eq
        exact hD _ _ ⟨t, hs', q, _, _, rfl, by omega, M9.bag, M9.inn, M9.tab, M9.cou, M9.run, M9.row, upd_same.trans (by rw [ecut]), M8.bag.ne hq, (ne_of_none hiC hq).symm, (ne_of_none hplC hq).symm, (ne_of_none M8.cou.don hq).symm, (ne_of_none hiR hq).symm, (ne_of_none hplR hq).symm, tok.2.1, hok'⟩
      refine ite_f (decide_eq_false fun z => c (V.int.inj z)) ?_
      obtain ⟨dxr, _, _, hir, _⟩ := g.cou.run.ex
      refine ⟨_, rfl, xr, dxr, _, rfl, hir, xr, _, s, hs, rfl, ⟨_, _, _, _, _, _, g.cou.run⟩, rfl, _, rfl, ?_⟩
      cases ho : s.out with
      | some zz =>
        exact ite_f (by first | rfl | (rw [ho]; rfl)) (hD _ _ ⟨s, hs, dn, _, _, rfl, by omega, g⟩)
      | none =>
        refine ite_t (by first | rfl | (rw [ho]; rfl)) ?_
        have hlt : s.at_ < ls.length := g.sok.no ho
        have sok := g.sok
        have hok := g.hok
        refine ⟨_, rfl, _, rfl, xr, dxr, _, rfl, hir, rfl, _, rfl, rfl, rfl, xr, pl, rl, p, dl, us, ls, s, hs, pk, rfl, g.cou, sok, by omega, ho, fun ll hll H4 m C4 => ⟨z1, fun q1 hq1 => ?_⟩⟩
        have hxl := g.run.prog.ok ll (List.mem_of_getElem? hll)
        obtain ⟨M4, hdn⟩ := g.mvC n19 m C4
        have e1 := same_new (o := .lst [V.int (s.at_ : Int)]) hq1
        have M5 := M4.same e1
        have hdn5 := e1 _ _ hdn
        refine ⟨dn, q1, _, _, rfl, rfl, hdn5, upd_same, Bx.sz (by rw [List.length_map, List.length_map]; show hs.length + 1 ≤ _; omega), fun q hq => ?_⟩
        have e2 := same_new (o := .lst ((hs.map fun t => (t.at_ : Int)).map V.int ++ [V.int (s.at_ : Int)])) hq
        obtain ⟨_, _, _, hiC, _, hplC, _⟩ := M5.cou.run.ex
        obtain ⟨_, _, _, hiR, _, hplR, _⟩ := M5.run.ex
        have nb := M5.bag.ne hq
        have nx := (ne_of_none hiC hq).symm
        have npl := (ne_of_none hplC hq).symm
        have ndl := (ne_of_none M5.cou.don hq).symm
        have nxp := (ne_of_none hiR hq).symm
        have npp := (ne_of_none hplR hq).symm
        have M6 := M5.same e2
        have hq6 := upd_same (a := q) (o := HO.lst ((hs.map fun t => (t.at_ : Int)).map V.int ++ [V.int (s.at_ : Int)])) (H := upd H4 q1 (.lst [V.int (s.at_ : Int)]))
        generalize upd (upd H4 q1 _) q _ = H6 at *
        clear M4 M5 hdn hdn5 e1 e2 hiC hplC hiR hplR hir g hq hq1 m C4
        obtain ⟨dxp, _, _, hip, _⟩ := M6.run.ex
        refine ⟨_, rfl, xp, dxp, _, rfl, hip, rfl, _, rfl, rfl, rfl, xp, pp, rp, p, _, [], us, ls, s, hs, pk, rfl, M6.run, sok, by omega, .inr ⟨ho, fun l2 hl2 H7 m7 R7 => ?_⟩⟩
        rw [hll] at hl2
        cases hl2
        have M7 := M6.follow (dm := q) n19 m7 R7
        have hq7 := m7 _ _ nxp npp hq6
        refine hD _ _ ⟨_, hs ++ [s], q, _, _, rfl, by rw [List.length_append]; show hs.length + 1 ≤ j + 1; omega, M7.bag, M7.inn, M7.tab, M7.cou, M7.run, M7.row, hq7.trans (by rw [List.map_append, List.map_append]; rfl), nb, nx, npl, ndl, nxp, npp, goL_ok sok hlt hxl, fun u hu => ?_⟩
        rcases List.mem_append.mp hu with h | h
        · exact hok u h
        · rw [List.mem_singleton.mp h]
          exact ⟨ho, sok, hlt⟩

end
theorem all (P : Program) (w : World) (base : Heap) {K : PySem.W.Frag} {mg : Str → Option Value} {fd : FuncData} (E : En K mg) (MP : MainP P "/claim/cut.py") (SS : SaysS fns K) (TB : LamX.TabB base mg (He.cT K ("law", none)).1 (He.cT K ("law", none)).2) (F : FunD K "law" "law" (defArgs s_law) (defBody s_law) (defScope s_law) [] [] (He.ga K "law") fd) :
    FnOk P w K mg base CX0 16 (He.ga K "law") fd ["script"] (sp_law K) := by
  have X_NothingLeft := okx_NothingLeft (P := P) (w := w) (base := base) E MP SS
  have X_Ended := okx_Ended (P := P) (w := w) (base := base) E MP SS
  have G__law_field := ok__law_field (P := P) (w := w) (base := base) E
  have G__law_try := ok__law_try (P := P) (w := w) (base := base) E G__law_field
  have G__law_pull := ok__law_pull (P := P) (w := w) (base := base) E
  have G__law_same := ok__law_same (P := P) (w := w) (base := base) E
  have G_Runner_outcome := ok_Runner_outcome (P := P) (w := w) (base := base) E
  have G_Runner_at := ok_Runner_at (P := P) (w := w) (base := base) E
  have G_Runner_pair := ok_Runner_pair (P := P) (w := w) (base := base) E
  have G_Runner_steps := ok_Runner_steps (P := P) (w := w) (base := base) E
  have G_CountingRunner_counts := ok_CountingRunner_counts (P := P) (w := w) (base := base) E
  have G_Runner_back := ok_Runner_back (P := P) (w := w) (base := base) E X_NothingLeft
  have G_CountingRunner_back := ok_CountingRunner_back (P := P) (w := w) (base := base) E MP SS G_Runner_back
  have G_is_true := ok_is_true (P := P) (w := w) (base := base) E
  have G_changed := ok_changed (P := P) (w := w) (base := base) E
  have G_behind := ok_behind (P := P) (w := w) (base := base) E G_is_true G_changed
  have G_is_number := ok_is_number (P := P) (w := w) (base := base) E
  have G_Runner_step := ok_Runner_step (P := P) (w := w) (base := base) E G_behind G_is_number X_Ended
  have G_CountingRunner_step := ok_CountingRunner_step (P := P) (w := w) (base := base) E MP SS G_Runner_step
  have G_Program_lines := ok_Program_lines (P := P) (w := w) (base := base) E
  have G_is_pair := ok_is_pair (P := P) (w := w) (base := base) E G_is_number
  have G_need_pair := ok_need_pair (P := P) (w := w) (base := base) E G_is_pair
  have G_Runner___init__ := ok_Runner___init__ (P := P) (w := w) (base := base) E G_Program_lines G_need_pair
  have G_CountingRunner___init__ := ok_CountingRunner___init__ (P := P) (w := w) (base := base) E MP SS G_Runner___init__
  have G_is_name := ok_is_name (P := P) (w := w) (base := base) E
  have G_is_within := ok_is_within (P := P) (w := w) (base := base) E G_is_number
  have G_is_one_of := ok_is_one_of (P := P) (w := w) (base := base) E
  have G_is_test := ok_is_test (P := P) (w := w) (base := base) E G_is_within G_is_one_of G_is_number
  have G_is_line := ok_is_line (P := P) (w := w) (base := base) E G_is_name G_is_within G_is_test G_is_one_of
  have G_Program___init__ := ok_Program___init__ (P := P) (w := w) (base := base) E G_is_line
  have G__law_program := ok__law_program (P := P) (w := w) (base := base) E G_Program___init__
  have G__law_pair := ok__law_pair (P := P) (w := w) (base := base) E G__law_pull
  have G__law_true := ok__law_true (P := P) (w := w) (base := base) E
  have G__law_rests := ok__law_rests (P := P) (w := w) (base := base) E
  have G__law_followers := ok__law_followers (P := P) (w := w) (base := base) E G__law_true G__law_rests
  have G__law_modulus := ok__law_modulus (P := P) (w := w) (base := base) E
  have G__law_states := ok__law_states (P := P) (w := w) (base := base) E G__law_followers G__law_modulus
  have G__law_test := ok__law_test (P := P) (w := w) (base := base) E G__law_pull
  have G__law_line := ok__law_line (P := P) (w := w) (base := base) E G__law_pull G__law_test
  have G__law_drawn := ok__law_drawn (P := P) (w := w) (base := base) E G__law_line G__law_pull
  have G__law_lines := ok__law_lines (P := P) (w := w) (base := base) E G__law_states G__law_drawn
  have G__law_bag := ok__law_bag (P := P) (w := w) (base := base) E
  exact ok_law F E TB G__law_field G__law_try G__law_pull G__law_same G_Runner_outcome G_Runner_at G_Runner_pair G_Runner_steps G_CountingRunner_counts G_CountingRunner_back G_Runner_back G_Runner_step G_CountingRunner_step G_Runner___init__ G_CountingRunner___init__ G__law_program G__law_pair G__law_lines G__law_bag
end Lw
open PySem PySem.W PySem.Calls PyProof.Rows
set_option maxRecDepth 100000 in
set_option maxHeartbeats 0 in
theorem PySem.Challenge.cw_addpath_k19_counted_runs_holds : PySem.Challenge.rw_addpath_k19_counted_runs.Holds := by
  w_on; o_law
  refine HandSHeadRun.head_any (r := OpenLaw.row PySem.Challenge.rw_addpath_k19_counted_runs) (q := view (OpenLaw.row PySem.Challenge.rw_addpath_k19_counted_runs).prog [51]) (H := Lw.hk) (ob := Lw.ob) (M := 20000) (loose := Lw.loose) (d := HandSHeadRun.topDef (OpenLaw.row PySem.Challenge.rw_addpath_k19_counted_runs).prog 51) (kwd := []) Lw.ob_eq
    (by kernel_rfl) (fun s => by kernel_rfl) Lw.run (by kernel_rfl) (by kernel_rfl) (by kernel_rfl) (by rfl) (by first | assumption | decide +kernel) (by decide +kernel) ⟨rfl, rfl, rfl, rfl, rfl, by decide +kernel⟩ ?hw ?hc
  case hw => w_witness2
  case hc =>
    refine LamX.walk_ofTsE (l := PySem.Challenge.rw_addpath_k19_counted_runs) (n := 63) (k := 16) (x := "script") (CX := fun _ => L2.CX0) rfl (by decide) (by kernel_rfl) ⟨rfl, by decide, by decide⟩ ?F (fun _ _ _ _ _ z => z)
    intro w mg fa h Y G hmg0
    obtain ⟨K, KX, c⟩ := Y
    have hmg : mg ("law" : PySem.Str) = some (.ref fa) := by
      have e : (HandSHeadRun.topDef (OpenLaw.row PySem.Challenge.rw_addpath_k19_counted_runs).prog 51).name = ("law" : PySem.Str) := by kernel_rfl
      rw [← e]
      exact hmg0
    refine ⟨K, KX, ?_⟩
    exact Bx.closingW (sp := Lw.sp_law) KX G hmg c (fun E => Lw.En.gl E "law") (c.d.def_ 33 (d := Lw.d_law) rfl) (fun base fd E SS TB F => Lw.all _ w base E ⟨by kernel_rfl, by kernel_rfl⟩ SS TB F) (fun F s v => L2.FunD.bindsA (ps := ["script"]) F (fun _ _ _ _ _ _ us hl => match us, hl with | [_], _ => rfl) s [v] rfl)
      (fun H a ns hl hT hS => Lw.sp_law_holds H a ns hl hT hS)
#print axioms PySem.Challenge.cw_addpath_k19_counted_runs_holds
