import PyProof.Rows.All
import Wide.All
import OpenK.AllK
import Wide.FinOn
import PyProof.EqAt
import PyProof.EqKinds
import PyProof.TupleCall
import KE.KStateDown
import HandS.ForMost
import HandS.More
import HandS.Wide
import HandS.IsInst
import HandS.Zip
import HandS.TupAny
import HandS.Steps
import HandS.Exc
import HandS.Defaults
import HandS.Style
import HandS.Head0
import HandS.Head1
import HandS.Head2
import HandS.HeadEnd
import HandS.HeadHook1
import HandS.HeadHook2
import HandS.HeadHook3
import HandS.HeadHook4
import HandS.HeadNt
import HandS.TupMul
import KE.KRevSl
import HandS.Walk
import HandS.ExcInit
import KE.KExcSuper
import KE.KSuper
import HandS.ExcField
import HandS.FStr
import HandS.TryMany
import HandS.ExcOwn
import HandS.ClsMeth
import HandS.HeadWalk
import HandS.HotCalls
import HandS.Lambda
import KE.KLam
import HandS.Comp
import HandS.Codes
import PySem.Challenge.RW_addpath_k03_pairs_of_paths
set_option Elab.async false
set_option linter.all false
set_option maxRecDepth 100000
set_option maxHeartbeats 4000000
/-! small things that all defs lean on -/
namespace Bx
open PySem PySem.Spec PyProof.Rows L2
/-- what the head has told: the facts of names, the defs -/
structure Env (fal : List He.Fa) (fnl : List He.DefD) (fna : List He5.DefA) (xf : PySem.W.Frag → Bool) (K : PySem.W.Frag) (mg : Str → Option Value) : Prop where
  ex : ∃ h : Heap, K.In h ∧ h.Ns mainGlobals mg
  says : He.SaysD fal fnl K
  saysA : He5.SaysA [] fna K
  more : xf K = true
theorem Env.ok {fal : List He.Fa} {fnl : List He.DefD} {fna : List He5.DefA} {xf : PySem.W.Frag → Bool} {K : PySem.W.Frag} {mg : Str → Option Value} (E : Env fal fnl fna xf K mg) {f : He.Fa} (h : f ∈ fal) : f.ok K = true := by
  obtain ⟨i, hi⟩ := List.getElem?_of_mem h
  exact E.says.fact i hi
theorem Env.glo {fal : List He.Fa} {fnl : List He.DefD} {fna : List He5.DefA} {xf : PySem.W.Frag → Bool} {K : PySem.W.Frag} {mg : Str → Option Value} (E : Env fal fnl fna xf K mg) (x : Str) (h : He.Fa.glo x ∈ fal) : mg x = some (.ref (He.ga K x)) := by
  obtain ⟨hp, X, G⟩ := E.ex
  exact He.glo_ok X G (E.ok h)
theorem Env.free {fal : List He.Fa} {fnl : List He.DefD} {fna : List He5.DefA} {xf : PySem.W.Frag → Bool} {K : PySem.W.Frag} {mg : Str → Option Value} (E : Env fal fnl fna xf K mg) (x : Str) (h : He.Fa.free x ∈ fal) : mg x = none := by
  obtain ⟨hp, X, G⟩ := E.ex
  exact He.free_ok X G (E.ok h)
/-- a def that stands under the module's name x and keeps its promise -/
def Good (P : Program) (w : World) (K : PySem.W.Frag) (mg : Str → Option Value) (base : Heap) (CX : CXT) (k : Nat) (x : Str) (ps : List Str) (sp : Sp) : Prop :=
  ∃ fd, FnOk P w K mg base CX k (He.ga K x) fd ps sp ∧ Binds K fd ps [] ∧ PySem.W.keepIn K (.ref (He.ga K x)) = true ∧ mg x = some (.ref (He.ga K x))
section
variable {X : Cx} {CX : CXT} {k : Nat} {ps : List Str} {sp : Sp} {E : XK} {x : Str} {p pos : Pos} {e : Expr} {es : List Expr} {t : TA}
theorem pe_G (F : Good X.prog X.w X.K X.mg X.base CX k x ps sp) (hr : Room k X.A) (hg : Gl X x) (hx : Passes CX X E) (ha : PA X (e :: es) t)
    (hdb : (x == ("__debug__" : Str)) = false := by decide) (he : starEach (e :: es) X.env = (false, eval e X.env) :: starEach es X.env := by rfl) (hpl : (backTo pos (starEach es X.env)).any (·.1) = false := by rfl) :
    PE X (.Call (.Name x p) (e :: es) [] pos) (tCall sp [] E t) := by
  obtain ⟨fd, F, b, kp, m⟩ := F
  exact pe_call F hr hg m kp b .nil hx ha hdb he hpl
end
/-- a def called by n positional values and keywords ks; gV: its values in the parameters' order -/
def GoodN (P : Program) (w : World) (K : PySem.W.Frag) (mg : Str → Option Value) (base : Heap) (CX : CXT) (k : Nat) (x : Str) (n : Nat) (ks ps : List Str) (gV : List V → List V → List V) (sp : Sp) : Prop :=
  ∃ fd, FnOk P w K mg base CX k (He.ga K x) fd ps sp ∧ (∃ g, KBn K fd ps n ks g gV) ∧ PySem.W.keepIn K (.ref (He.ga K x)) = true ∧ mg x = some (.ref (He.ga K x))
section
variable {X : Cx} {CX : CXT} {k n : Nat} {ps ks : List Str} {sp : Sp} {E : XK} {x : Str} {p pos : Pos} {e : Expr} {es : List Expr} {kws : List Keyword} {t tk : TA} {gV : List V → List V → List V}
theorem pe_GN (F : GoodN X.prog X.w X.K X.mg X.base CX k x n ks ps gV sp) (hr : Room k X.A) (hg : Gl X x) (hx : Passes CX X E)
    (ha : PA X (e :: es) t) (hkw : PK X kws tk) (hall : (backToKw pos (keywordEach kws X.env)).all (·.1.isSome) = true := by rfl) (hks : (backToKw pos (keywordEach kws X.env)).filterMap (·.1) = ks := by rfl)
    (hdb : (x == ("__debug__" : Str)) = false := by decide) (he : starEach (e :: es) X.env = (false, eval e X.env) :: starEach es X.env := by rfl)
    (hpl : ((backTo pos (starEach (e :: es) X.env)).any (·.1) || (backToKw pos (keywordEach kws X.env)).any (·.1.isNone)) = false := by rfl) :
    PE X (.Call (.Name x p) (e :: es) kws pos) (tCallN n ks.length sp gV E t tk) := by
  obtain ⟨fd, F, ⟨g, hb⟩, kp, m⟩ := F
  exact pe_callN F hr hg m kp hb hx ha hkw hall hks hdb he hpl
end
/-- a def that stands at f (a method) -/
def GoodM (P : Program) (w : World) (K : PySem.W.Frag) (mg : Str → Option Value) (base : Heap) (CX : CXT) (k : Nat) (f : Addr) (ps : List Str) (sp : Sp) : Prop :=
  ∃ fd, FnOk P w K mg base CX k f fd ps sp ∧ Binds K fd ps []
theorem GoodM.raw {P : Program} {w : World} {K : PySem.W.Frag} {mg : Str → Option Value} {base : Heap} {CX : CXT} {k : Nat} {f : Addr} {ps : List Str} {sp : Sp} (G : GoodM P w K mg base CX k f ps sp) : FnR P w K mg base CX k f sp := by
  obtain ⟨fd, F, b⟩ := G
  exact (F.raw b .nil).imp fun vs H Q E h => by rw [List.append_nil]; exact h
/-- the same, with the def itself: for calls with keywords -/
def GoodD (P : Program) (w : World) (K : PySem.W.Frag) (mg : Str → Option Value) (base : Heap) (CX : CXT) (k : Nat) (d : He.DefD) (x : Str) (ps : List Str) (sp : Sp) : Prop :=
  ∃ fd, FnOk P w K mg base CX k (He.ga K x) fd ps sp ∧ Binds K fd ps [] ∧ PySem.W.keepIn K (.ref (He.ga K x)) = true ∧ mg x = some (.ref (He.ga K x)) ∧ FunD K d.name d.qual d.params d.body d.scope (d.dvs K) (d.kws K) (He.ga K x) fd
theorem GoodD.good {P : Program} {w : World} {K : PySem.W.Frag} {mg : Str → Option Value} {base : Heap} {CX : CXT} {k : Nat} {d : He.DefD} {x : Str} {ps : List Str} {sp : Sp} (h : GoodD P w K mg base CX k d x ps sp) : Good P w K mg base CX k x ps sp := by
  obtain ⟨fd, F, b, kp, m, _⟩ := h
  exact ⟨fd, F, b, kp, m⟩
theorem _root_.L2.FunD.bindsW {K : PySem.W.Frag} {x qual : Str} {params : Arguments} {body : List Stmt} {scope : Scope} {kws : List (Str × V)} {f : Addr} {fd : FuncData} {args : Args} {binds : List (Str × Value)} (F : FunD K x qual params body scope [] kws f fd)
    (h : ∀ (kV doc pm : Value) (an : Option Addr) (cdv ct : Value), bindArgs (PySem.W.fnOf x qual params body scope .none kV doc pm an cdv ct) args = pure binds) (s : Shared) : BindsTo s fd args binds := by
  obtain ⟨oc, od, dV, kV, doc, pm, an, cdv, ct, osl, rfl, lk, hcd, hD, hK⟩ := F.ex
  rcases hD with ⟨_, rfl⟩ | ⟨e, _⟩
  · exact .of_eq (h kV doc pm an cdv ct)
  · exact absurd rfl e
section
variable {X : Cx} {CX : CXT} {k : Nat} {ps ks : List Str} {sp : Sp} {E : XK} {x : Str} {p pos : Pos} {kws : List Keyword} {tk : TA} {d : He.DefD}
/-- f(k = v, ..), all parameters by keywords in their order -/
theorem pe_GK0 (F : GoodD X.prog X.w X.K X.mg X.base CX k d x ps sp) (hr : Room k X.A) (hg : Gl X x) (hx : Passes CX X E)
    (hb : ∀ {fd}, FunD X.K d.name d.qual d.params d.body d.scope (d.dvs X.K) (d.kws X.K) (He.ga X.K x) fd → ∀ (s : Shared) (us : List Value), us.length = ps.length → BindsTo s fd ⟨[], ps.zip us⟩ (ps.zip us))
    (hkw : PK X kws tk) (hall : (backToKw pos (keywordEach kws X.env)).all (·.1.isSome) = true := by rfl) (hks : (backToKw pos (keywordEach kws X.env)).filterMap (·.1) = ps := by rfl)
    (hdb : (x == ("__debug__" : Str)) = false := by decide) (hpl : ((backTo pos (starEach [] X.env)).any (·.1) || (backToKw pos (keywordEach kws X.env)).any (·.1.isNone)) = false := by rfl) :
    PE X (.Call (.Name x p) [] kws pos) (fun σ H Q => tk σ H fun zs H1 => sp zs H1 Q E) := by
  obtain ⟨fd, F, _, kp, m, D⟩ := F
  refine ⟨fun pins s σ H Q I h => ?_⟩
  refine wpAny_Call_Name_kw (ld_glob I hg m ?_ hdb)
  refine PySem.W.callWith_KW0 (h₀ := X.base) I.ok.mod.kin kp hall (thn (hkw.run pos pins s σ H _ I h) fun ws s2 ⟨zs, H2, I2, rz, q2⟩ => ⟨I2.kIn, ?_⟩) hpl
  rw [hks, List.append_nil]
  have l2 : ws.length = ps.length := by rw [← rz.length]; exact F.len _ _ _ _ q2
  refine wpAny_call (codeAny_mono (F.run X.A X.stack s2 H2 ⟨[], ps.zip ws⟩ ws zs Q E hr I2.env0 (hb D s2 ws l2) rz q2) fun r s' hq => ?_)
  cases r with
  | error e => exact hx pins σ H2 s2 e s' I2 hq
  | ok fl =>
    cases fl with
    | ret u => exact I2.after hq
    | next => exact False.elim hq
    | brk => exact False.elim hq
    | cont => exact False.elim hq
end
section
variable {X : Cx} {CX : CXT} {k : Nat} {ps ks : List Str} {sp : Sp} {E : XK} {x : Str} {p pos : Pos} {kws : List Keyword} {tk : TA} {d : He.DefD}
/-- f(k = v, ..), all parameters by keywords, from the last to the first -/
theorem pe_GKr (F : GoodD X.prog X.w X.K X.mg X.base CX k d x ps sp) (hr : Room k X.A) (hg : Gl X x) (hx : Passes CX X E)
    (hb : ∀ {fd}, FunD X.K d.name d.qual d.params d.body d.scope (d.dvs X.K) (d.kws X.K) (He.ga X.K x) fd → ∀ (s : Shared) (us : List Value), us.length = ps.length → BindsTo s fd ⟨[], ps.reverse.zip us⟩ (ps.zip us.reverse))
    (hkw : PK X kws tk) (hall : (backToKw pos (keywordEach kws X.env)).all (·.1.isSome) = true := by rfl) (hks : (backToKw pos (keywordEach kws X.env)).filterMap (·.1) = ps.reverse := by rfl)
    (hdb : (x == ("__debug__" : Str)) = false := by decide) (hpl : ((backTo pos (starEach [] X.env)).any (·.1) || (backToKw pos (keywordEach kws X.env)).any (·.1.isNone)) = false := by rfl) :
    PE X (.Call (.Name x p) [] kws pos) (fun σ H Q => tk σ H fun zs H1 => sp zs.reverse H1 Q E) := by
  obtain ⟨fd, F, _, kp, m, D⟩ := F
  refine ⟨fun pins s σ H Q I h => ?_⟩
  refine wpAny_Call_Name_kw (ld_glob I hg m ?_ hdb)
  refine PySem.W.callWith_KW0 (h₀ := X.base) I.ok.mod.kin kp hall (thn (hkw.run pos pins s σ H _ I h) fun ws s2 ⟨zs, H2, I2, rz, q2⟩ => ⟨I2.kIn, ?_⟩) hpl
  rw [hks, List.append_nil]
  have l2 : ws.length = ps.length := by
    have := F.len _ _ _ _ q2
    rw [List.length_reverse, rz.length] at this
    exact this
  refine wpAny_call (codeAny_mono (F.run X.A X.stack s2 H2 ⟨[], ps.reverse.zip ws⟩ ws.reverse zs.reverse Q E hr I2.env0 (hb D s2 ws l2) rz.reverse q2) fun r s' hq => ?_)
  cases r with
  | error e => exact hx pins σ H2 s2 e s' I2 hq
  | ok fl =>
    cases fl with
    | ret u => exact I2.after hq
    | next => exact False.elim hq
    | brk => exact False.elim hq
    | cont => exact False.elim hq
end
/-- len(t), said with K -/
def rLenC (K : PySem.W.Frag) : List V → Hp → VK → Prop := fun xs H Q => ∃ p ys, xs = [.ref p] ∧ (SqL K H p ys ∨ SqT K H p ys) ∧ Q (.int ((ys.length : Nat) : Int)) H
/-- tuple(t), said with K -/
def rTof (K : PySem.W.Frag) : List V → Hp → VK → Prop := fun xs H Q => ∃ p ys, xs = [.ref p] ∧ ((SqL K H p ys ∧ ∀ l, H l = none → Q (.ref l) (L2.upd H l (.tup ys))) ∨ (SqT K H p ys ∧ Q (.ref p) H))
/-- the scope of a written comprehension; the value of an assignment -/
def compSc : Expr → Scope
  | .ListComp _ _ sc _ => sc
  | _ => default
def assignVal : Stmt → Expr
  | .Assign _ v _ => v
  | _ => default
/-- list(t), said with K -/
def rLof (K : PySem.W.Frag) : List V → Hp → VK → Prop := fun xs H Q => ∃ p ys, xs = [.ref p] ∧ (SqL K H p ys ∨ SqT K H p ys) ∧ ∀ l, H l = none → Q (.ref l) (L2.upd H l (.lst ys))
/-- the module's name x is a tuple, plain -/
def tupN (K : PySem.W.Frag) (x : Str) : Bool := match K.lookup (He.ga K x) with
  | some ⟨.type c, none, .seq _ _, _⟩ => decide (c = "tuple")
  | _ => false
theorem tupN_ok {K : PySem.W.Frag} {x : Str} (h : tupN K x = true) (H : Hp) : tyV K "tuple" (.ref (He.ga K x)) H := by
  unfold tupN at h
  cases q : K.lookup (He.ga K x) with
  | none =>
    rw [q] at h
    cases h
  | some o =>
    obtain ⟨oc, od, dt, osl⟩ := o
    rw [q] at h
    cases oc with
    | type c =>
      cases od with
      | none =>
        cases dt with
        | seq its n => exact .inr (.inl ⟨rfl, _, q, congrArg Value.type (of_decide_eq_true h), rfl⟩)
        | _ => cases h
      | some a => cases dt <;> cases h
    | _ => cases od <;> cases dt <;> cases h
theorem ite_f {c : Bool} {A B : Prop} (hc : c = false) (h : B) : if c = true then A else B := by
  rw [hc]
  exact iteF h
theorem ite_t {c : Bool} {A B : Prop} (hc : c = true) (h : A) : if c = true then A else B := by
  rw [hc]
  exact iteT h
theorem dne {i j : Int} (h : i ≠ j) : decide (V.int i = V.int j) = false := decide_eq_false fun z => h (V.int.inj z)
theorem deq {i j : Int} (h : i = j) : decide (V.int i = V.int j) = true := decide_eq_true (congrArg V.int h)
theorem hu64_of {A : Around} {k : Nat} (hr : Room k A) : A.units + 64 < cLine := Nat.lt_of_le_of_lt (Nat.le_refl _) hr.units
theorem closing {fal : List He.Fa} {fnl : List He.DefD} {fna : List He5.DefA} {xf : PySem.W.Frag → Bool} {P : Program} {w : World} {K : PySem.W.Frag} {h : Heap} {mg : Str → Option Value} {fa : Addr} {k : Nat} {sp : PySem.W.Frag → Sp} {pa : Arguments} {bd : List Stmt} {sc : Scope}
    (KX : K.In h) (G : h.Ns mainGlobals mg) (hmg : mg ("law" : Str) = some (.ref fa)) (c : He.SaysD fal fnl K) (ca : He5.SaysA [] fna K) (cx : xf K = true) (gl : Env fal fnl fna xf K mg → mg ("law" : Str) = some (.ref (He.ga K "law")))
    (D : ∃ fd, FunD K "law" "law" pa bd sc [] [] (He.ga K "law") fd)
    (F : ∀ (base : Heap) (fd : FuncData), Env fal fnl fna xf K mg → FunD K "law" "law" pa bd sc [] [] (He.ga K "law") fd → FnOk P w K mg base CX0 k (He.ga K "law") fd ["script"] (sp K))
    (b : ∀ {fd : FuncData}, FunD K "law" "law" pa bd sc [] [] (He.ga K "law") fd → ∀ (s : Shared) (v : Value), BindsTo s fd ⟨[v], []⟩ [("script", v)])
    (hsp : ∀ (H : Hp) (a : Addr) (ns : List Int), ns.length ≤ 63 → SqL K H a (ns.map V.int) → sp K [.ref a] H (fun v _ => v = .bl true) fun _ _ _ => False) :
    ∃ (K : PySem.W.Frag) (fd : FuncData) (sp : Sp), K.In h ∧ (∀ (s : Shared) (u : Value), BindsTo s fd ⟨[u], []⟩ [("script", u)]) ∧
        (∀ (H : Hp) (a : Addr) (ns : List Int), ns.length ≤ 63 → Only H → SqL K H a (ns.map V.int) → sp [.ref a] H (fun v _ => v = .bl true) fun _ _ _ => False) ∧
        ∀ base : Heap, K.In base → base.Ns mainGlobals mg → FnOk P w K mg base CX0 k fa fd ["script"] sp := by
  have E : Env fal fnl fna xf K mg := ⟨⟨h, KX, G⟩, c, ca, cx⟩
  obtain ⟨fd, hD⟩ := D
  have e := (gl E).symm.trans hmg
  cases e
  exact ⟨K, fd, sp K, KX, b hD, fun H a ns hl _ hS => hsp H a ns hl hS, fun base _ _ => F base fd E hD⟩
end Bx

/-! slices, kinds, places -/
namespace Bx
open PySem PySem.Spec PyProof.Rows L2
theorem cut_to {xs : List V} {n : Nat} (h : xs.length ≤ n) : cutV xs none (some (n : Int)) = xs := by
  unfold cutV
  rw [HT.sIx_none, HT.sIx_nat, Nat.min_eq_right h, List.drop_zero, Nat.sub_zero, List.take_length]
theorem cut63 {xs : List V} (h : xs.length ≤ 63) : cutV xs none (some 63) = xs := cut_to (n := 63) h
theorem cut_from1 (xs : List V) : cutV xs (some 1) none = xs.drop 1 := by
  unfold cutV
  rw [HT.sIx_none, show (1 : Int) = ((1 : Nat) : Int) from rfl, HT.sIx_nat]
  cases xs with
  | nil => rfl
  | cons x r => simp
theorem tyL {K : PySem.W.Frag} {H : Hp} {a : Addr} {xs : List V} (h : SqL K H a xs) : TyX K H (.ref a) (.type "list") := by
  rcases h with (h | ⟨o, h⟩) | ⟨o, its, n, h, c, _⟩
  · exact .base (.lst h)
  · exact .base (.frz h)
  · exact .kList h c
theorem tyT {K : PySem.W.Frag} {H : Hp} {a : Addr} {xs : List V} (h : SqT K H a xs) : TyX K H (.ref a) (.type "tuple") := by
  rcases h with (h | ⟨o, h⟩) | ⟨o, its, n, h, c, _⟩
  · exact .base (.tup h)
  · exact .fTuple h
  · exact .kTuple h c
/-- isinstance(x, T), both built-in -/
theorem isi {K : PySem.W.Frag} {H : Hp} {x : V} {a b : String} {r : Bool} {Q : VK} (t : TyX K H x (.type a)) (e : kitB a b = some r) (q : Q (.bl r) H) : rIsi K [x, .ty b] H Q :=
  ⟨x, .ty b, _, _, r, rfl, .ty b, t, kit_ty e, q⟩
theorem seqT {K : PySem.W.Frag} {H H' : Hp} {a : Addr} {xs : List V} (e : Same H H') (h : SqT K H a xs) : SqT K H' a xs := by
  rcases h with (h | ⟨o, h⟩) | h
  · exact .inl (.inl (e _ _ h))
  · exact .inl (.inr ⟨o, e _ _ h⟩)
  · exact .inr h
theorem same_new {H : Hp} {p : Addr} {o : HO} (h : H p = none) : Same H (upd H p o) := fun b u q => by rw [upd_ne (ne_of_none q h)]; exact q
/-- an object that H does not know may change -/
theorem same_mut {H H' : Hp} {p : Addr} {o : HO} (e : Same H H') (h : H p = none) : Same H (upd H' p o) := fun b u q => by rw [upd_ne (ne_of_none q h)]; exact e b u q
theorem sz {n : Nat} (h : n ≤ 100000) : n ≤ sizeLine := Nat.le_trans h (by decide)
theorem szl {n : Nat} (h : n < 100000) : n < sizeLine := Nat.lt_of_lt_of_le h (by decide)
/-- all but the object at b is as it was -/
structure Kp (b : Addr) (H H' : Hp) : Prop where
  kp : ∀ a o, a ≠ b → H a = some o → H' a = some o
  inn : ∀ c r, H b = some (.lst (.ref c :: r)) → ∃ r', H' b = some (.lst (.ref c :: r'))
instance {b : Addr} {H H' : Hp} : CoeFun (Kp b H H') (fun _ => ∀ a o, a ≠ b → H a = some o → H' a = some o) := ⟨Kp.kp⟩
theorem Kp.refl (b : Addr) (H : Hp) : Kp b H H := ⟨fun _ _ _ h => h, fun _ r h => ⟨r, h⟩⟩
theorem Kp.trans {b : Addr} {H H1 H2 : Hp} (x : Kp b H H1) (y : Kp b H1 H2) : Kp b H H2 := ⟨fun a o n h => y.kp a o n (x.kp a o n h), fun c r h => by
  obtain ⟨r1, h1⟩ := x.inn c r h
  exact y.inn c r1 h1⟩
theorem Kp.of {b : Addr} {H H' : Hp} (x : Same H H') : Kp b H H' := ⟨fun a o _ h => x a o h, fun c r h => ⟨r, x _ _ h⟩⟩
theorem Kp.put {b c : Addr} {H : Hp} {r r' : List V} (h : H b = some (.lst (.ref c :: r))) : Kp b H (L2.upd H b (.lst (.ref c :: r'))) := ⟨fun a u n h => by rw [upd_ne n]; exact h, fun c' q h2 => by
  rw [h] at h2
  cases h2
  exact ⟨_, upd_same⟩⟩
theorem Kp.new {b p : Addr} {H H' : Hp} {o : HO} (e : Kp b H H') (h : H' p = none) : Kp b H (L2.upd H' p o) := e.trans (Kp.of (same_new h))
end Bx
namespace Bx
open PySem PySem.Spec PyProof.Rows L2
theorem Kp.seq {K : PySem.W.Frag} {b a : Addr} {H H' : Hp} {xs : List V} (e : Kp b H H') (n : a ≠ b) (h : SqL K H a xs) : SqL K H' a xs := by
  rcases h with (h | ⟨o, h⟩) | h
  · exact .inl (.inl (e _ _ n h))
  · exact .inl (.inr ⟨o, e _ _ n h⟩)
  · exact .inr h
end Bx
namespace Bx
open PySem PySem.Spec PyProof.Rows L2
theorem cut_from (xs : List V) (n : Nat) : cutV xs (some (n : Int)) none = xs.drop n := by
  unfold cutV
  rw [HT.sIx_none, HT.sIx_nat]
  by_cases h : n ≤ xs.length
  · rw [Nat.min_eq_left h]
    exact List.take_of_length_le (by rw [List.length_drop]; exact Nat.le_refl _)
  · rw [Nat.min_eq_right (by omega), Nat.sub_self, List.take_zero, List.drop_eq_nil_of_le (by omega)]
theorem atI_nat' {α : Type} {xs : List α} {j : Nat} (h : j < xs.length) : atI xs (j : Int) = some xs[j] := atI_nat (List.getElem?_eq_getElem h)
end Bx

-- needs lists
/-! data of any depth in a heap that grows -/
namespace Bx
open PySem PySem.Spec PyProof.Rows L2
mutual
theorem Dp.same {K : PySem.W.Frag} {H H' : Hp} (e : Same H H') : ∀ {d : PyData} {v : V}, Dp K H v d → Dp K H' v d
  | .none, _, h => by cases h; exact .non
  | .bool _, _, h => by cases h; exact .bl _
  | .int _, _, h => by cases h; exact .int _
  | .str _, _, h => by cases h; exact .str _
  | .list _, _, h => by
    cases h with
    | lst hs ha => exact .lst (e.seq hs) (Dp.sameAll e ha)
  | .tuple _, _, h => by
    cases h with
    | tup hs ha => exact .tup (seqT e hs) (Dp.sameAll e ha)
  | .dict _, _, h => by cases h
theorem Dp.sameAll {K : PySem.W.Frag} {H H' : Hp} (e : Same H H') : ∀ {ds : List PyData} {vs : List V}, DpAll K H vs ds → DpAll K H' vs ds
  | [], _, h => by cases h; exact .nil
  | _ :: _, _, h => by
    cases h with
    | cons h1 h2 => exact .cons (Dp.same e h1) (Dp.sameAll e h2)
end
theorem DpAll.length {K : PySem.W.Frag} {H : Hp} : ∀ {ds : List PyData} {vs : List V}, DpAll K H vs ds → vs.length = ds.length
  | [], _, h => by cases h; rfl
  | _ :: _, _, h => by
    cases h with
    | cons h1 h2 => exact congrArg Nat.succ (DpAll.length h2)
theorem DpAll.get {K : PySem.W.Frag} {H : Hp} : ∀ {ds : List PyData} {vs : List V} {i : Nat} {v : V}, DpAll K H vs ds → vs[i]? = some v → ∃ d, ds[i]? = some d ∧ Dp K H v d
  | [], _, _, _, h, e => by cases h; cases e
  | _ :: _, _, 0, _, h, e => by
    cases h with
    | cons h1 h2 =>
      cases e
      exact ⟨_, rfl, h1⟩
  | _ :: _, _, i + 1, _, h, e => by
    cases h with
    | cons h1 h2 =>
      obtain ⟨d, q1, q2⟩ := DpAll.get (i := i) h2 (by simpa using e)
      exact ⟨d, by simpa using q1, q2⟩
theorem DpAll.append {K : PySem.W.Frag} {H : Hp} : ∀ {ds es : List PyData} {vs us : List V}, DpAll K H vs ds → DpAll K H us es → DpAll K H (vs ++ us) (ds ++ es)
  | [], _, _, _, h, g => by cases h; exact g
  | _ :: _, _, _, _, h, g => by
    cases h with
    | cons h1 h2 => exact .cons h1 (DpAll.append h2 g)
theorem DpAll.one {K : PySem.W.Frag} {H : Hp} {d : PyData} {v : V} (h : Dp K H v d) : DpAll K H [v] [d] := .cons h .nil
/-- two things of one tuple -/
theorem Dp.pair {K : PySem.W.Frag} {H : Hp} {v : V} {d e : PyData} (h : Dp K H v (.tuple [d, e])) : ∃ a x y, v = .ref a ∧ SqT K H a [x, y] ∧ Dp K H x d ∧ Dp K H y e := by
  cases h with
  | @tup a xs _ hs ha =>
    cases ha with
    | cons h1 h2 =>
      cases h2 with
      | cons h3 h4 =>
        cases h4
        exact ⟨_, _, _, rfl, hs, h1, h3⟩
theorem Dp.lst' {K : PySem.W.Frag} {H : Hp} {v : V} {ds : List PyData} (h : Dp K H v (.list ds)) : ∃ a xs, v = .ref a ∧ SqL K H a xs ∧ DpAll K H xs ds := by
  cases h with
  | lst hs ha => exact ⟨_, _, rfl, hs, ha⟩
theorem Dp.int' {K : PySem.W.Frag} {H : Hp} {v : V} {i : Int} (h : Dp K H v (.int i)) : v = .int i := by cases h; rfl
theorem Dp.str' {K : PySem.W.Frag} {H : Hp} {v : V} {x : Str} (h : Dp K H v (.str x)) : v = .str x := by cases h; rfl
theorem Dp.bl' {K : PySem.W.Frag} {H : Hp} {v : V} {x : Bool} (h : Dp K H v (.bool x)) : v = .bl x := by cases h; rfl
theorem Dp.non' {K : PySem.W.Frag} {H : Hp} {v : V} (h : Dp K H v .none) : v = .non := by cases h; rfl
end Bx
namespace Bx
open PySem PySem.Spec PyProof.Rows L2
/-- all that is no list is as it was -/
def SameT (H H' : Hp) : Prop := ∀ a o, H a = some o → (∀ ys, o ≠ .lst ys) → H' a = some o
theorem SameT.refl (H : Hp) : SameT H H := fun _ _ h _ => h
theorem SameT.trans {H H1 H2 : Hp} (x : SameT H H1) (y : SameT H1 H2) : SameT H H2 := fun a o h n => y a o (x a o h n) n
theorem SameT.of {H H' : Hp} (e : Same H H') : SameT H H' := fun a o h _ => e a o h
theorem SameT.put {H : Hp} {a : Addr} {xs : List V} {o : HO} (h : H a = some (.lst xs)) : SameT H (L2.upd H a o) := fun b u q n => by
  have nb : b ≠ a := fun z => by
    rw [z, h] at q
    exact n _ (Option.some.inj q).symm
  rw [upd_ne nb]
  exact q
theorem SameT.new {H : Hp} {p : Addr} {o : HO} (h : H p = none) : SameT H (L2.upd H p o) := .of (same_new h)
theorem SameT.seqT {K : PySem.W.Frag} {H H' : Hp} {a : Addr} {xs : List V} (e : SameT H H') (h : SqT K H a xs) : SqT K H' a xs := by
  rcases h with (h | ⟨o, h⟩) | h
  · exact .inl (.inl (e _ _ h fun _ z => by cases z))
  · exact .inl (.inr ⟨o, e _ _ h fun _ z => by cases z⟩)
  · exact .inr h
mutual
/-- no list within -/
def noL : PyData → Bool
  | .none => true
  | .bool _ => true
  | .int _ => true
  | .str _ => true
  | .list _ => false
  | .tuple ds => noLs ds
  | .dict _ => false
def noLs : List PyData → Bool
  | [] => true
  | d :: ds => noL d && noLs ds
end
mutual
theorem Dp.sameT {K : PySem.W.Frag} {H H' : Hp} (e : SameT H H') : ∀ {d : PyData} {v : V}, noL d = true → Dp K H v d → Dp K H' v d
  | .none, _, _, h => by cases h; exact .non
  | .bool _, _, _, h => by cases h; exact .bl _
  | .int _, _, _, h => by cases h; exact .int _
  | .str _, _, _, h => by cases h; exact .str _
  | .list _, _, n, _ => by cases n
  | .tuple _, _, n, h => by
    cases h with
    | tup hs ha => exact .tup (e.seqT hs) (Dp.sameTs e (by rw [noL] at n; exact n) ha)
  | .dict _, _, _, h => by cases h
theorem Dp.sameTs {K : PySem.W.Frag} {H H' : Hp} (e : SameT H H') : ∀ {ds : List PyData} {vs : List V}, noLs ds = true → DpAll K H vs ds → DpAll K H' vs ds
  | [], _, _, h => by cases h; exact .nil
  | _ :: _, _, n, h => by
    cases h with
    | cons h1 h2 =>
      rw [noLs, Bool.and_eq_true] at n
      exact .cons (Dp.sameT e n.1 h1) (Dp.sameTs e n.2 h2)
end
theorem noLs_map {α : Type} {f : α → PyData} (h : ∀ x, noL (f x) = true) : ∀ l : List α, noLs (l.map f) = true
  | [] => rfl
  | x :: l => by rw [List.map_cons, noLs, h x, noLs_map h l]; rfl
end Bx
namespace Bx
open PySem PySem.Spec PyProof.Rows L2
mutual
/-- no list or tuple has more than 90000 items -/
def smallD : PyData → Bool
  | .list ds => decide (ds.length ≤ 90000) && smallDs ds
  | .tuple ds => decide (ds.length ≤ 90000) && smallDs ds
  | _ => true
def smallDs : List PyData → Bool
  | [] => true
  | d :: ds => smallD d && smallDs ds
end
theorem smallDs_get : ∀ {ds : List PyData} {i : Nat} {d : PyData}, smallDs ds = true → ds[i]? = some d → smallD d = true
  | [], _, _, _, h => by cases h
  | _ :: _, 0, _, s, h => by
    cases h
    rw [smallDs, Bool.and_eq_true] at s
    exact s.1
  | _ :: ds, i + 1, _, s, h => by
    rw [smallDs, Bool.and_eq_true] at s
    exact smallDs_get (ds := ds) (i := i) s.2 (by simpa using h)
theorem small_ofL {ds : List PyData} (h : smallD (.list ds) = true) : ds.length ≤ 90000 ∧ ∀ {i : Nat} {d : PyData}, ds[i]? = some d → smallD d = true := by
  rw [smallD, Bool.and_eq_true] at h
  exact ⟨of_decide_eq_true h.1, smallDs_get h.2⟩
theorem small_ofT {ds : List PyData} (h : smallD (.tuple ds) = true) : ds.length ≤ 90000 ∧ ∀ {i : Nat} {d : PyData}, ds[i]? = some d → smallD d = true := by
  rw [smallD, Bool.and_eq_true] at h
  exact ⟨of_decide_eq_true h.1, smallDs_get h.2⟩
theorem smallDs_map {α : Type} {f : α → PyData} (h : ∀ x, smallD (f x) = true) : ∀ l : List α, smallDs (l.map f) = true
  | [] => rfl
  | x :: l => by rw [List.map_cons, smallDs, h x, smallDs_map h l]; rfl
theorem smallL {ds : List PyData} (h : ds.length ≤ 90000) (h2 : smallDs ds = true) : smallD (.list ds) = true := by rw [smallD, h2, decide_eq_true h]; rfl
end Bx
namespace Bx
open PySem PySem.Spec PyProof.Rows L2
theorem depthAll_map {α : Type} {f : α → PyData} {n : Nat} (h : ∀ x, (f x).depth ≤ n) : ∀ l : List α, PyData.depthAll (l.map f) ≤ n
  | [] => Nat.zero_le _
  | x :: l => by
    rw [List.map_cons, PyData.depthAll]
    exact Nat.max_le.mpr ⟨h x, depthAll_map h l⟩
end Bx

-- needs deep
/-! pairs of numbers, their runs, their letters -/
namespace Bx
open PySem PySem.Spec PyProof.Rows L2
/-- a pair with numbers from 0 on, not both 0, below 2 ^ 4000 -/
def okP (x y : Nat) : Prop := ¬ (x = 0 ∧ y = 0) ∧ x < 2 ^ 4000 ∧ y < 2 ^ 4000
def PairAt (K : PySem.W.Frag) (H : Hp) (v : V) (x y : Nat) : Prop := ∃ a, v = .ref a ∧ SqT K H a [.int (x : Int), .int (y : Int)]
theorem PairAt.same {K : PySem.W.Frag} {H H' : Hp} {v : V} {x y : Nat} (h : PairAt K H v x y) (e : Same H H') : PairAt K H' v x y := by
  obtain ⟨a, e1, h⟩ := h
  exact ⟨a, e1, seqT e h⟩
theorem at2_0 (a b : V) : atI [a, b] 0 = some a := rfl
theorem at2_1 (a b : V) : atI [a, b] 1 = some b := rfl
/-- the runs from the top: true is X -/
def R (x y : Nat) : List (Bool × Nat) :=
  if h : 0 < x ∧ 0 < y ∧ x ≠ y then
    if x > y then (true, (x - 1) / y) :: R (x - (x - 1) / y * y) y else (false, (y - 1) / x) :: R x (y - (y - 1) / x * x)
  else []
termination_by x + y
decreasing_by
  · have h1 : 0 < (x - 1) / y := Nat.div_pos (by omega) h.2.1
    have h2 : 0 < (x - 1) / y * y := Nat.mul_pos h1 h.2.1
    omega
  · have h1 : 0 < (y - 1) / x := Nat.div_pos (by omega) h.1
    have h2 : 0 < (y - 1) / x * x := Nat.mul_pos h1 h.1
    omega
theorem R_nil {x y : Nat} (h : ¬ (0 < x ∧ 0 < y ∧ x ≠ y)) : R x y = [] := by rw [R, dif_neg h]
theorem R_x {x y : Nat} (h : 0 < y) (h2 : x > y) : R x y = (true, (x - 1) / y) :: R (x - (x - 1) / y * y) y := by
  rw [R, dif_pos ⟨by omega, h, by omega⟩, if_pos h2]
theorem R_y {x y : Nat} (h : 0 < x) (h2 : y > x) : R x y = (false, (y - 1) / x) :: R x (y - (y - 1) / x * x) := by
  rw [R, dif_pos ⟨h, by omega, by omega⟩, if_neg (by omega)]
theorem dm_le (x y : Nat) : (x - 1) / y * y ≤ x := Nat.le_trans (Nat.div_mul_le_self _ _) (Nat.sub_le _ _)
theorem dm_lt {x y : Nat} (h : 0 < y) (h2 : x > y) : x - (x - 1) / y * y < x ∧ 0 < x - (x - 1) / y * y := by
  have h1 : 0 < (x - 1) / y := Nat.div_pos (by omega) h
  have h3 : 0 < (x - 1) / y * y := Nat.mul_pos h1 h
  have h4 : (x - 1) / y * y ≤ x - 1 := Nat.div_mul_le_self _ _
  omega
theorem cast_div {x y : Nat} (h : 0 < x) : ((x : Int) - 1) / (y : Int) = (((x - 1) / y : Nat) : Int) := by
  rw [Int.natCast_ediv]
  congr 1
  omega
theorem cast_sub {x y : Nat} : (x : Int) - (((x - 1) / y : Nat) : Int) * (y : Int) = ((x - (x - 1) / y * y : Nat) : Int) := by
  rw [Int.ofNat_sub (dm_le x y), Int.natCast_mul]
def letS (b : Bool) : Str := if b then "X" else "Y"
def runD (r : Bool × Nat) : PyData := .tuple [.str (letS r.1), .int (r.2 : Int)]
def runsD (l : List (Bool × Nat)) : PyData := .list (l.map runD)
/-- the letters from the top, one by one -/
def L (x y : Nat) : List Bool :=
  if h : 0 < x ∧ 0 < y ∧ x ≠ y then
    if x > y then true :: L (x - y) y else false :: L x (y - x)
  else []
termination_by x + y
theorem L_nil {x y : Nat} (h : ¬ (0 < x ∧ 0 < y ∧ x ≠ y)) : L x y = [] := by rw [L, dif_neg h]
theorem L_x {x y : Nat} (h : 0 < y) (h2 : x > y) : L x y = true :: L (x - y) y := by rw [L, dif_pos ⟨by omega, h, by omega⟩, if_pos h2]
theorem L_y {x y : Nat} (h : 0 < x) (h2 : y > x) : L x y = false :: L x (y - x) := by rw [L, dif_pos ⟨h, by omega, by omega⟩, if_neg (by omega)]
theorem L_xs {y : Nat} (h : 0 < y) : ∀ (k x : Nat), k * y < x → L x y = List.replicate k true ++ L (x - k * y) y
  | 0, x, _ => by simp
  | k + 1, x, h2 => by
    have e : (k + 1) * y = k * y + y := Nat.succ_mul k y
    rw [e] at h2
    rw [L_x h (by omega), L_xs h k (x - y) (by omega), List.replicate_succ, List.cons_append, show x - y - k * y = x - (k + 1) * y by omega]
theorem L_ys {x : Nat} (h : 0 < x) : ∀ (k y : Nat), k * x < y → L x y = List.replicate k false ++ L x (y - k * x)
  | 0, y, _ => by simp
  | k + 1, y, h2 => by
    have e : (k + 1) * x = k * x + x := Nat.succ_mul k x
    rw [e] at h2
    rw [L_y h (by omega), L_ys h k (y - x) (by omega), List.replicate_succ, List.cons_append, show y - x - k * x = y - (k + 1) * x by omega]
def spell (l : List (Bool × Nat)) : List Bool := l.flatMap fun r => List.replicate r.2 r.1
theorem spell_R (x y : Nat) : spell (R x y) = L x y := by
  by_cases h : 0 < x ∧ 0 < y ∧ x ≠ y
  · by_cases h2 : x > y
    · have d := dm_lt h.2.1 h2
      rw [R_x h.2.1 h2]
      show List.replicate _ true ++ spell (R _ y) = _
      rw [spell_R (x - (x - 1) / y * y) y, ← L_xs h.2.1 ((x - 1) / y) x (by omega)]
    · have d := dm_lt h.1 (show y > x by omega)
      rw [R_y h.1 (by omega)]
      show List.replicate _ false ++ spell (R x _) = _
      rw [spell_R x (y - (y - 1) / x * x), ← L_ys h.1 ((y - 1) / x) y (by omega)]
  · rw [R_nil h, L_nil h]
    rfl
termination_by x + y
theorem spell_len : ∀ l : List (Bool × Nat), (spell l).length = (l.map (·.2)).sum
  | [] => rfl
  | r :: l => by
    show (List.replicate r.2 r.1 ++ spell l).length = _
    rw [List.length_append, List.length_replicate, spell_len l, List.map_cons, List.sum_cons]
theorem L_le (x y : Nat) : (L x y).length ≤ x + y := by
  by_cases h : 0 < x ∧ 0 < y ∧ x ≠ y
  · by_cases h2 : x > y
    · rw [L_x h.2.1 h2, List.length_cons]
      have := L_le (x - y) y
      omega
    · rw [L_y h.1 (by omega), List.length_cons]
      have := L_le x (y - x)
      omega
  · rw [L_nil h]
    exact Nat.zero_le _
termination_by x + y
/-- runs halve the numbers: there are few -/
theorem R_len (n : Nat) : ∀ (x y : Nat), x * y < 2 ^ n → (R x y).length ≤ n := by
  induction n with
  | zero =>
    intro x y h
    have z : ¬ (0 < x ∧ 0 < y ∧ x ≠ y) := fun ⟨h1, h2, _⟩ => by
      have := Nat.mul_pos h1 h2
      omega
    rw [R_nil z]
    exact Nat.le_refl _
  | succ n ih =>
    intro x y h
    by_cases c : 0 < x ∧ 0 < y ∧ x ≠ y
    · by_cases c2 : x > y
      · rw [R_x c.2.1 c2, List.length_cons]
        have d := dm_lt c.2.1 c2
        have e : (x - 1) / y * y + (x - 1) % y = x - 1 := by rw [Nat.mul_comm]; exact Nat.div_add_mod _ _
        have m : (x - 1) % y < y := Nat.mod_lt _ c.2.1
        have p : 0 < (x - 1) / y := Nat.div_pos (by omega) c.2.1
        have p2 : y ≤ (x - 1) / y * y := Nat.le_mul_of_pos_left _ p
        have half : 2 * (x - (x - 1) / y * y) ≤ x := by omega
        have q : 2 * ((x - (x - 1) / y * y) * y) ≤ x * y := by
          rw [← Nat.mul_assoc]
          exact Nat.mul_le_mul_right _ half
        have := ih (x - (x - 1) / y * y) y (by rw [Nat.pow_succ] at h; omega)
        omega
      · have c3 : y > x := by omega
        rw [R_y c.1 c3, List.length_cons]
        have d := dm_lt c.1 c3
        have e : (y - 1) / x * x + (y - 1) % x = y - 1 := by rw [Nat.mul_comm]; exact Nat.div_add_mod _ _
        have m : (y - 1) % x < x := Nat.mod_lt _ c.1
        have p : 0 < (y - 1) / x := Nat.div_pos (by omega) c.1
        have p2 : x ≤ (y - 1) / x * x := Nat.le_mul_of_pos_left _ p
        have half : 2 * (y - (y - 1) / x * x) ≤ y := by omega
        have q : 2 * (x * (y - (y - 1) / x * x)) ≤ x * y := by
          rw [show 2 * (x * (y - (y - 1) / x * x)) = x * (2 * (y - (y - 1) / x * x)) by rw [← Nat.mul_assoc, ← Nat.mul_assoc, Nat.mul_comm 2 x]]
          exact Nat.mul_le_mul_left _ half
        have := ih x (y - (y - 1) / x * x) (by rw [Nat.pow_succ] at h; omega)
        omega
    · rw [R_nil c]
      exact Nat.zero_le _
theorem R_len' {x y : Nat} (h : okP x y) : (R x y).length ≤ 8000 := by
  refine R_len 8000 x y ?_
  by_cases hy : 0 < y
  · have e : (2 : Nat) ^ 8000 = 2 ^ 4000 * 2 ^ 4000 := (Nat.pow_add 2 4000 4000)
    rw [e]
    exact Nat.mul_lt_mul'' h.2.1 h.2.2
  · have : y = 0 := by omega
    rw [this, Nat.mul_zero]
    exact Nat.pow_pos (by decide)
end Bx
namespace Bx
open PySem PySem.Spec PyProof.Rows L2
theorem noL_runD (r : Bool × Nat) : noL (runD r) = true := rfl
theorem PairAt.sameT {K : PySem.W.Frag} {H H' : Hp} {v : V} {x y : Nat} (h : PairAt K H v x y) (e : SameT H H') : PairAt K H' v x y := by
  obtain ⟨a, e1, h⟩ := h
  exact ⟨a, e1, e.seqT h⟩
theorem nat_abs {x n : Nat} (h : x < 2 ^ n) : ((x : Int)).natAbs < 2 ^ n := by rw [Int.natAbs_natCast]; exact h
theorem okDiv {i : Int} {y : Nat} (h0 : 0 < y) (h : y < 2 ^ 4000) : CDivW i (y : Int) := wide_div (by omega) (nat_abs h) (by decide) (by decide)
theorem okMul {x y : Nat} (h : x < 2 ^ 4000) (h2 : y < 2 ^ 4000) : CMulW (x : Int) (y : Int) := wide_mul (nat_abs h) (nat_abs h2) (by decide) (by decide) (by decide)
end Bx
namespace Bx
open PySem PySem.Spec PyProof.Rows L2
theorem sum_casts : ∀ l : List (Bool × Nat), ((l.map fun r => ((r.2 : Nat) : Int)).sum) = (((l.map (·.2)).sum : Nat) : Int)
  | [] => rfl
  | r :: l => by
    rw [List.map_cons, List.sum_cons, List.map_cons, List.sum_cons, sum_casts l, Int.natCast_add]
theorem sumR (x y : Nat) : ((R x y).map fun r => ((r.2 : Nat) : Int)).sum = (((L x y).length : Nat) : Int) := by rw [sum_casts, ← spell_len, spell_R]
theorem okP_small {x y : Nat} (h : ¬ (x = 0 ∧ y = 0)) (hx : x ≤ 1000000) (hy : y ≤ 1000000) : okP x y := by
  have e : 1000000 < 2 ^ 4000 := Nat.lt_of_lt_of_le (by decide : 1000000 < 2 ^ 20) (Nat.pow_le_pow_right (by decide) (by decide))
  exact ⟨h, Nat.lt_of_le_of_lt hx e, Nat.lt_of_le_of_lt hy e⟩
/-- a run of a list of runs -/
theorem run_get {K : PySem.W.Frag} {H : Hp} {us : List V} {l : List (Bool × Nat)} {i : Nat} {u : V} (g : DpAll K H us (l.map runD)) (hu : us[i]? = some u) :
    ∃ (c : Bool) (n : Nat) (p : Addr), l[i]? = some (c, n) ∧ u = .ref p ∧ SqT K H p [.str (letS c), .int (n : Int)] := by
  obtain ⟨d, hd, du⟩ := DpAll.get g hu
  obtain ⟨⟨c, n⟩, hr, rfl⟩ : ∃ r, l[i]? = some r ∧ runD r = d := by
    rw [List.getElem?_map] at hd
    cases q : l[i]? with
    | none => rw [q] at hd; cases hd
    | some r => rw [q] at hd; exact ⟨r, rfl, Option.some.inj hd⟩
  obtain ⟨p, a1, a2, rfl, hp, e1, e3⟩ := Dp.pair du
  cases Dp.str' e1
  cases Dp.int' e3
  exact ⟨c, n, p, hr, rfl, hp⟩
end Bx
namespace Bx
open PySem PySem.Spec PyProof.Rows L2
theorem runsD_depth (l : List (Bool × Nat)) : (runsD l).depth ≤ 2 := by
  show PyData.depthAll (l.map runD) + 1 ≤ 2
  have := depthAll_map (f := runD) (n := 1) (fun _ => Nat.le_refl _) l
  omega
theorem runsD_small {x y : Nat} (h : okP x y) : smallD (runsD (R x y)) = true := by
  refine smallL ?_ (smallDs_map (fun _ => rfl) _)
  have := R_len' h
  rw [List.length_map]
  omega
theorem Dp_runs {K : PySem.W.Frag} {H : Hp} {f : Addr} {us : List V} {l : List (Bool × Nat)} (h : SqL K H f us) (g : DpAll K H us (l.map runD)) : Dp K H (.ref f) (runsD l) := .lst h g
theorem letS_inj {a b : Bool} (h : a ≠ b) : decide (V.str (letS a) = V.str (letS b)) = false := by
  cases a <;> cases b
  · exact absurd rfl h
  · decide +kernel
  · decide +kernel
  · exact absurd rfl h
end Bx
namespace Bx
open PySem PySem.Spec PyProof.Rows L2
theorem beq_letS (a b : Bool) : (letS a == letS b) = (a == b) := by
  cases a <;> cases b <;> decide +kernel
theorem eqv_runD (x y : Bool × Nat) : PyData.eqv (runD x) (runD y) = decide (x = y) := by
  unfold runD
  simp only [PyData.eqv, PyData.eqvAll, beq_letS, Bool.and_true]
  rw [Bool.eq_iff_iff]
  simp [Prod.ext_iff]
  intro _
  omega
theorem canLay_runD (x : Bool × Nat) : (runD x).canLay0 = true := by
  obtain ⟨c, n⟩ := x
  cases c
  · show (PyData.canLay0 (.str "Y") && (true && true)) = true
    decide +kernel
  · show (PyData.canLay0 (.str "X") && (true && true)) = true
    decide +kernel
theorem canLay_map {α : Type} {f : α → PyData} (h : ∀ x, (f x).canLay0 = true) : ∀ l : List α, PyData.canLayAll0 (l.map f) = true
  | [] => by simp [PyData.canLayAll0]
  | x :: l => by
    rw [List.map_cons, PyData.canLayAll0, h x, canLay_map h l]
    rfl
theorem shaped_runD (x : Bool × Nat) : SeqAt.shaped (runD x) = true := by
  unfold SeqAt.shaped
  rw [canLay_runD]
  rfl
theorem shaped_runs (l : List (Bool × Nat)) : SeqAt.shaped (runsD l) = true := by
  unfold SeqAt.shaped
  have h : (runsD l).canLay0 = true := by
    show (PyData.list _).canLay0 = true
    rw [PyData.canLay0]
    exact canLay_map canLay_runD l
  have d := runsD_depth l
  rw [h, decide_eq_true (by omega)]
  rfl
theorem eqv_nil (l : List (Bool × Nat)) : PyData.eqv (runsD l) (.list []) = decide (l = []) := by
  cases l with
  | nil => rfl
  | cons a l => rfl
end Bx

-- needs pairs
namespace Bx
open PySem PySem.Spec PyProof.Rows L2
def bot (x y : Nat) : Str := if y = 0 then "flat" else if x = 0 then "steep" else "even"
end Bx

-- needs lists deep pairs bottoms
/-! a table: modulus, flats, steeps, starts, rows -/
namespace Bx
open PySem PySem.Spec PyProof.Rows L2
structure Tb where
  m : Nat
  flats : List Bool
  steeps : List Bool
  starts : List Nat
  rows : List (Nat × Nat × Bool)
def boolsD (l : List Bool) : PyData := .tuple (l.map .bool)
def natsD (l : List Nat) : PyData := .tuple (l.map fun n : Nat => PyData.int (n : Int))
def rowD (r : Nat × Nat × Bool) : PyData := .tuple [.int (r.1 : Int), .int (r.2.1 : Int), .bool r.2.2]
def rowsD (l : List (Nat × Nat × Bool)) : PyData := .tuple (l.map rowD)
def tabD (t : Tb) : PyData := .tuple [.int (t.m : Int), boolsD t.flats, boolsD t.steeps, natsD t.starts, rowsD t.rows]
structure Tok (t : Tb) : Prop where
  md : t.m = 1 ∨ t.m = 2 ∨ t.m = 3 ∨ t.m = 6
  fl : t.flats.length = t.m
  sl : t.steeps.length = t.m
  tl : t.starts.length = t.m
  r0 : 0 < t.rows.length
  r1 : t.rows.length ≤ 1000
  st : ∀ s ∈ t.starts, s < t.rows.length
  rw1 : ∀ r ∈ t.rows, r.1 < t.rows.length
  rw2 : ∀ r ∈ t.rows, r.2.1 < t.rows.length
theorem Tok.m0 {t : Tb} (h : Tok t) : 0 < t.m ∧ t.m ≤ 6 := by
  rcases h.md with e | e | e | e <;> rw [e] <;> decide
theorem Dp.tup' {K : PySem.W.Frag} {H : Hp} {v : V} {ds : List PyData} (h : Dp K H v (.tuple ds)) : ∃ a xs, v = .ref a ∧ SqT K H a xs ∧ DpAll K H xs ds := by
  cases h with
  | tup h1 h2 => exact ⟨_, _, rfl, h1, h2⟩
theorem Dp.bools {K : PySem.W.Frag} {H : Hp} {v : V} {l : List Bool} (h : Dp K H v (boolsD l)) : ∃ a, v = .ref a ∧ SqT K H a (l.map V.bl) := by
  obtain ⟨a, xs, rfl, h1, h2⟩ := Dp.tup' h
  have e : xs = l.map V.bl := by
    clear h h1
    induction l generalizing xs with
    | nil => cases h2; rfl
    | cons b l ih =>
      cases h2 with
      | cons h3 h4 =>
        rw [Dp.bl' h3, ih _ h4]
        rfl
  subst e
  exact ⟨a, rfl, h1⟩
theorem Dp.nats {K : PySem.W.Frag} {H : Hp} {v : V} {l : List Nat} (h : Dp K H v (natsD l)) : ∃ a, v = .ref a ∧ SqT K H a (l.map fun n : Nat => V.int (n : Int)) := by
  obtain ⟨a, xs, rfl, h1, h2⟩ := Dp.tup' h
  have e : xs = l.map fun n : Nat => V.int (n : Int) := by
    clear h h1
    induction l generalizing xs with
    | nil => cases h2; rfl
    | cons b l ih =>
      cases h2 with
      | cons h3 h4 =>
        rw [Dp.int' h3, ih _ h4]
        rfl
  subst e
  exact ⟨a, rfl, h1⟩
theorem Dp.row {K : PySem.W.Frag} {H : Hp} {v : V} {r : Nat × Nat × Bool} (h : Dp K H v (rowD r)) : ∃ a, v = .ref a ∧ SqT K H a [.int (r.1 : Int), .int (r.2.1 : Int), .bl r.2.2] := by
  obtain ⟨a, xs, rfl, h1, h2⟩ := Dp.tup' h
  cases h2 with
  | cons h3 h4 =>
    cases h4 with
    | cons h5 h6 =>
      cases h6 with
      | cons h7 h8 =>
        cases h8
        cases Dp.int' h3
        cases Dp.int' h5
        cases Dp.bl' h7
        exact ⟨a, rfl, h1⟩
theorem Dp.rows {K : PySem.W.Frag} {H : Hp} {v : V} {l : List (Nat × Nat × Bool)} (h : Dp K H v (rowsD l)) : ∃ a us, v = .ref a ∧ SqT K H a us ∧ us.length = l.length ∧ ∀ (i : Nat) (r : Nat × Nat × Bool), l[i]? = some r → ∃ p, us[i]? = some (.ref p) ∧ SqT K H p [.int (r.1 : Int), .int (r.2.1 : Int), .bl r.2.2] := by
  obtain ⟨a, us, rfl, h1, h2⟩ := Dp.tup' h
  have hl := DpAll.length h2
  rw [List.length_map] at hl
  refine ⟨a, us, rfl, h1, hl, fun i r hr => ?_⟩
  have hi : i < us.length := by rw [hl]; exact (List.getElem?_eq_some_iff.mp hr).1
  obtain ⟨d, hd, dz⟩ := DpAll.get h2 (List.getElem?_eq_getElem hi)
  rw [List.getElem?_map, hr] at hd
  cases hd
  obtain ⟨p, e, hp⟩ := Dp.row dz
  exact ⟨p, by rw [List.getElem?_eq_getElem hi, e], hp⟩
/-- the parts of a table that stands in the heap -/
structure TabAt (K : PySem.W.Frag) (H : Hp) (a : Addr) (t : Tb) (f s b r : V) : Prop where
  sq : SqT K H a [.int (t.m : Int), f, s, b, r]
  fd : Dp K H f (boolsD t.flats)
  sd : Dp K H s (boolsD t.steeps)
  bd : Dp K H b (natsD t.starts)
  rd : Dp K H r (rowsD t.rows)
theorem Dp.tab {K : PySem.W.Frag} {H : Hp} {v : V} {t : Tb} (h : Dp K H v (tabD t)) : ∃ a f s b r, v = .ref a ∧ TabAt K H a t f s b r := by
  obtain ⟨a, xs, rfl, h1, h2⟩ := Dp.tup' h
  cases h2 with
  | cons g1 h2 =>
    cases h2 with
    | cons g2 h2 =>
      cases h2 with
      | cons g3 h2 =>
        cases h2 with
        | cons g4 h2 =>
          cases h2 with
          | cons g5 h2 =>
            cases h2
            cases Dp.int' g1
            exact ⟨a, _, _, _, _, rfl, h1, g2, g3, g4, g5⟩
theorem TabAt.dp {K : PySem.W.Frag} {H : Hp} {a : Addr} {t : Tb} {f s b r : V} (h : TabAt K H a t f s b r) : Dp K H (.ref a) (tabD t) := .tup h.sq (.cons (.int _) (.cons h.fd (.cons h.sd (.cons h.bd (.cons h.rd .nil)))))
theorem noL_bools (l : List Bool) : noL (boolsD l) = true := by
  unfold boolsD
  rw [noL]
  exact noLs_map (f := PyData.bool) (fun _ => rfl) l
theorem noL_nats (l : List Nat) : noL (natsD l) = true := by
  unfold natsD
  rw [noL]
  exact noLs_map (f := fun n : Nat => PyData.int (n : Int)) (fun _ => rfl) l
theorem noL_rows (l : List (Nat × Nat × Bool)) : noL (rowsD l) = true := by
  unfold rowsD
  rw [noL]
  exact noLs_map (f := rowD) (fun _ => rfl) l
theorem noL_tab (t : Tb) : noL (tabD t) = true := by
  unfold tabD
  rw [noL, noLs, noLs, noLs, noLs, noLs, noL_bools, noL_bools, noL_nats, noL_rows]
  rfl
/-! what a table tells -/
def goT (t : Tb) (s : Nat) (l : Bool) : Nat := match t.rows[s]? with
  | some r => if l then r.1 else r.2.1
  | none => 0
def goodT (t : Tb) (s : Nat) : Bool := match t.rows[s]? with
  | some r => r.2.2
  | none => false
theorem goT_lt {t : Tb} (h : Tok t) {s : Nat} (hs : s < t.rows.length) (l : Bool) : goT t s l < t.rows.length := by
  unfold goT
  rw [List.getElem?_eq_getElem hs]
  dsimp only
  have hm := List.getElem_mem hs
  split
  · exact h.rw1 _ hm
  · exact h.rw2 _ hm
/-- the spot behind many letters -/
def goN (t : Tb) (l : Bool) : Nat → Nat → Nat
  | 0, s => s
  | n + 1, s => goN t l n (goT t s l)
def begT (t : Tb) (g : Nat) : Nat := (t.starts[g % t.m]?).getD 0
/-- is the pair in the set -/
def hasT (t : Tb) (x y : Nat) : Bool :=
  if y = 0 then (t.flats[Nat.gcd x y % t.m]?).getD false
  else if x = 0 then (t.steeps[Nat.gcd x y % t.m]?).getD false
  else goodT t (((R x y).reverse).foldl (fun s r => goN t r.1 r.2 s) (begT t (Nat.gcd x y)))
end Bx

-- needs lists deep tables
-- imports HandS.IsInst
/-! values of any kind: what the checks say of them -/
namespace Bx
open PySem PySem.Spec PyProof.Rows L2
def tyD : PyData → String
  | .none => "NoneType"
  | .bool _ => "bool"
  | .int _ => "int"
  | .str _ => "str"
  | .list _ => "list"
  | .tuple _ => "tuple"
  | .dict _ => "dict"
theorem Dp.tyx {K : PySem.W.Frag} {H : Hp} {v : V} {d : PyData} (h : Dp K H v d) : TyX K H v (.type (tyD d)) := by
  cases h with
  | non => exact .base .non
  | bl b => exact .base (.bl b)
  | int i => exact .base (.int i)
  | str x => exact .base (.str x)
  | lst h1 _ => exact tyL h1
  | tup h1 _ => exact tyT h1
def isBoolD : PyData → Bool
  | .bool _ => true
  | _ => false
def isIntD : PyData → Bool
  | .int _ => true
  | _ => false
def isTupD : PyData → Bool
  | .tuple _ => true
  | _ => false
/-- isinstance(v, int), isinstance(v, bool), isinstance(v, tuple) -/
theorem kit_int : ∀ d : PyData, kitB (tyD d) "int" = some (isIntD d || isBoolD d)
  | .none => (show kitB "NoneType" "int" = some false by decide +kernel)
  | .bool _ => (show kitB "bool" "int" = some true by decide +kernel)
  | .int _ => (show kitB "int" "int" = some true by decide +kernel)
  | .str _ => (show kitB "str" "int" = some false by decide +kernel)
  | .list _ => (show kitB "list" "int" = some false by decide +kernel)
  | .tuple _ => (show kitB "tuple" "int" = some false by decide +kernel)
  | .dict _ => (show kitB "dict" "int" = some false by decide +kernel)
theorem kit_bool : ∀ d : PyData, kitB (tyD d) "bool" = some (isBoolD d)
  | .none => (show kitB "NoneType" "bool" = some false by decide +kernel)
  | .bool _ => (show kitB "bool" "bool" = some true by decide +kernel)
  | .int _ => (show kitB "int" "bool" = some false by decide +kernel)
  | .str _ => (show kitB "str" "bool" = some false by decide +kernel)
  | .list _ => (show kitB "list" "bool" = some false by decide +kernel)
  | .tuple _ => (show kitB "tuple" "bool" = some false by decide +kernel)
  | .dict _ => (show kitB "dict" "bool" = some false by decide +kernel)
theorem kit_tup : ∀ d : PyData, kitB (tyD d) "tuple" = some (isTupD d)
  | .none => (show kitB "NoneType" "tuple" = some false by decide +kernel)
  | .bool _ => (show kitB "bool" "tuple" = some false by decide +kernel)
  | .int _ => (show kitB "int" "tuple" = some false by decide +kernel)
  | .str _ => (show kitB "str" "tuple" = some false by decide +kernel)
  | .list _ => (show kitB "list" "tuple" = some false by decide +kernel)
  | .tuple _ => (show kitB "tuple" "tuple" = some true by decide +kernel)
  | .dict _ => (show kitB "dict" "tuple" = some false by decide +kernel)
theorem isTup_of {K : PySem.W.Frag} {H : Hp} {v : V} {d : PyData} (h : Dp K H v d) (e : isTupD d = true) : ∃ a xs ds, v = .ref a ∧ d = .tuple ds ∧ SqT K H a xs ∧ DpAll K H xs ds := by
  cases h with
  | tup h1 h2 => exact ⟨_, _, _, rfl, rfl, h1, h2⟩
  | _ => cases e
theorem isInt_of {K : PySem.W.Frag} {H : Hp} {v : V} {d : PyData} (h : Dp K H v d) (e : isIntD d = true) : ∃ i, v = .int i ∧ d = .int i := by
  cases h with
  | int i => exact ⟨i, rfl, rfl⟩
  | _ => cases e
/-- a number of one of n rows -/
def lenD : PyData → Nat
  | .tuple ds => ds.length
  | _ => 0
/-- a number of one of n rows -/
def spotD (n : Nat) : PyData → Bool
  | .int i => decide (0 ≤ i) && decide (i < (n : Int))
  | _ => false
/-- n booleans -/
def truthsD (n : Nat) : PyData → Bool
  | .tuple ds => decide (ds.length = n) && ds.all isBoolD
  | _ => false
def rowOkD (n : Nat) : PyData → Bool
  | .tuple ds => match ds with
    | [a, b, c] => isBoolD c && (spotD n a && spotD n b)
    | _ => false
  | _ => false
def inMod (i : Int) : Bool := decide (i = 1) || decide (i = 2) || decide (i = 3) || decide (i = 6)
def startsD (m : Int) (n : Nat) : PyData → Bool
  | .tuple ds => decide ((ds.length : Int) = m) && ds.all (spotD n)
  | _ => false
def tableD (m f s b r : PyData) : Bool := match m with
  | .int i => inMod i && (truthsD i.toNat f && (truthsD i.toNat s && match r with
    | .tuple rs => rs.all (rowOkD rs.length) && startsD i rs.length b
    | _ => false))
  | _ => false
theorem truths_ok (l : List Bool) : truthsD l.length (boolsD l) = true := by
  unfold boolsD truthsD
  dsimp only
  rw [decide_eq_true (by rw [List.length_map])]
  rw [Bool.true_and, List.all_map]
  exact List.all_eq_true.mpr fun _ _ => rfl
theorem spot_ok {n c : Nat} (h : c < n) : spotD n (.int (c : Int)) = true := by
  unfold spotD
  dsimp only
  rw [decide_eq_true (show (0 : Int) ≤ (c : Int) by omega), decide_eq_true (show (c : Int) < (n : Int) by omega)]
  rfl
theorem inMod_ok {m : Nat} (h : m = 1 ∨ m = 2 ∨ m = 3 ∨ m = 6) : inMod (m : Int) = true := by
  rcases h with e | e | e | e <;> subst e <;> decide
theorem tableD_ok {t : Tb} (ok : Tok t) : tableD (.int (t.m : Int)) (boolsD t.flats) (boolsD t.steeps) (natsD t.starts) (rowsD t.rows) = true := by
  unfold tableD
  have e1 : ((t.m : Int)).toNat = t.m := by omega
  have h1 : truthsD t.m (boolsD t.flats) = true := by rw [← ok.fl]; exact truths_ok _
  have h2 : truthsD t.m (boolsD t.steeps) = true := by rw [← ok.sl]; exact truths_ok _
  dsimp only
  rw [e1, inMod_ok ok.md, h1, h2]
  unfold rowsD
  dsimp only
  have h3 : (t.rows.map rowD).all (rowOkD (t.rows.map rowD).length) = true := by
    rw [List.all_map, List.length_map]
    refine List.all_eq_true.mpr fun r hr => ?_
    show rowOkD t.rows.length (rowD r) = true
    unfold rowD rowOkD
    dsimp only
    rw [spot_ok (ok.rw1 r hr), spot_ok (ok.rw2 r hr)]
    rfl
  rw [h3]
  unfold natsD startsD
  dsimp only
  rw [List.length_map, ok.tl, decide_eq_true rfl, List.length_map, List.all_map]
  have h4 : t.starts.all (spotD t.rows.length ∘ fun n : Nat => PyData.int (n : Int)) = true := List.all_eq_true.mpr fun c hc => spot_ok (ok.st c hc)
  rw [h4]
  rfl
theorem inMod_eq (i : Int) : inV (V.int i) [V.int 1, V.int 2, V.int 3, V.int 6] = inMod i := by
  by_cases h1 : i = 1
  · subst h1; decide +kernel
  · by_cases h2 : i = 2
    · subst h2; decide +kernel
    · by_cases h3 : i = 3
      · subst h3; decide +kernel
      · by_cases h6 : i = 6
        · subst h6; decide +kernel
        · unfold inMod
          rw [decide_eq_false h1, decide_eq_false h2, decide_eq_false h3, decide_eq_false h6]
          have ne : ∀ {j : Int}, ¬ i = j → eqV (V.int j) (V.int i) = false := fun {j} h => by
            unfold eqV
            simp [h, Ne.symm h]
            try omega
          simp [inV, ne h1, ne h2, ne h3, ne h6]
theorem inMod_nat {i : Int} (h : inMod i = true) : ∃ n : Nat, i = (n : Int) ∧ n ≤ 6 := by
  unfold inMod at h
  simp only [Bool.or_eq_true, decide_eq_true_eq] at h
  exact ⟨i.toNat, by omega, by omega⟩
end Bx

-- needs odd pairs
/-! runs, bottoms, divisors of any kind -/
namespace Bx
open PySem PySem.Spec PyProof.Rows L2
def flatPD : PyData → Bool
  | .none => true
  | .bool _ => true
  | .int _ => true
  | .str _ => true
  | _ => false
theorem flat_of {K : PySem.W.Frag} {H : Hp} {v : V} {d : PyData} (h : Dp K H v d) (f : flatPD d = true) : flatV v = true := by
  cases h <;> first | rfl | cases f
def inS (l : List Str) : PyData → Bool
  | .str s => inV (.str s) (l.map V.str)
  | _ => false
theorem inS_of {K : PySem.W.Frag} {H : Hp} {v : V} {d : PyData} (h : Dp K H v d) (f : flatPD d = true) (l : List Str) : inV v (l.map V.str) = inS l d := by
  cases h with
  | str s => rfl
  | lst _ _ => cases f
  | tup _ _ => cases f
  | _ =>
    exact List.any_eq_false.mpr fun y hy => by
      obtain ⟨x, _, rfl⟩ := List.mem_map.mp hy
      exact Bool.false_ne_true
def posD : PyData → Bool
  | .int i => decide (1 ≤ i)
  | _ => false
def runFl : PyData → Bool
  | .tuple ds => match ds with
    | [a, _] => flatPD a
    | _ => true
  | _ => true
def runOkD : PyData → Bool
  | .tuple ds => match ds with
    | [a, b] => inS ["X", "Y"] a && posD b
    | _ => false
  | _ => false
theorem runOk_run (r : Bool × Nat) : runOkD (runD r) = decide (1 ≤ r.2) := by
  obtain ⟨c, n⟩ := r
  show (inS ["X", "Y"] (.str (letS c)) && decide ((1 : Int) ≤ (n : Int))) = decide (1 ≤ n)
  have e : inS ["X", "Y"] (.str (letS c)) = true := by cases c <;> decide +kernel
  rw [e, Bool.true_and]
  exact decide_eq_decide.mpr ⟨fun h => by omega, fun h => by omega⟩
theorem runFl_run (r : Bool × Nat) : runFl (runD r) = true := rfl
theorem DpAll.two {K : PySem.W.Frag} {H : Hp} {xs : List V} {ds : List PyData} (h : DpAll K H xs ds) (e : xs.length = 2) : ∃ x y a b, xs = [x, y] ∧ ds = [a, b] ∧ Dp K H x a ∧ Dp K H y b := by
  cases h with
  | nil => cases e
  | cons h1 h =>
    cases h with
    | nil => cases e
    | cons h2 h =>
      cases h with
      | nil => exact ⟨_, _, _, _, rfl, rfl, h1, h2⟩
      | cons h4 h => cases e
theorem runOk_len {ds : List PyData} (h : ds.length ≠ 2) : runOkD (.tuple ds) = false := by
  unfold runOkD
  match ds, h with
  | [], _ => rfl
  | [_], _ => rfl
  | [_, _], h => exact absurd rfl h
  | _ :: _ :: _ :: _, _ => rfl
end Bx

-- needs pairs
/-! the pair of a path -/
namespace Bx
open PySem PySem.Spec PyProof.Rows L2
def buildP (g : Nat) : List (Bool × Nat) → Nat × Nat
  | [] => (g, g)
  | r :: l => if r.1 then ((buildP g l).1 + r.2 * (buildP g l).2, (buildP g l).2) else ((buildP g l).1, (buildP g l).2 + r.2 * (buildP g l).1)
def AltP : List (Bool × Nat) → Prop
  | [] => True
  | r :: l => 1 ≤ r.2 ∧ (∀ q, l.head? = some q → q.1 ≠ r.1) ∧ AltP l
theorem div_run {a n b : Nat} (hb : 0 < b) (ha : 0 < a) (h : a ≤ b) : (a + n * b - 1) / b = n := by
  have e : a + n * b - 1 = (a - 1) + n * b := by omega
  rw [e, Nat.add_mul_div_right _ _ hb, Nat.div_eq_of_lt (by omega), Nat.zero_add]
theorem buildP_ok {g : Nat} (hg : 1 ≤ g) : ∀ {rs : List (Bool × Nat)}, AltP rs →
    1 ≤ (buildP g rs).1 ∧ 1 ≤ (buildP g rs).2 ∧ R (buildP g rs).1 (buildP g rs).2 = rs ∧ Nat.gcd (buildP g rs).1 (buildP g rs).2 = g ∧
      (rs.head?.all fun q => if q.1 then decide ((buildP g rs).2 < (buildP g rs).1) else decide ((buildP g rs).1 < (buildP g rs).2)) = true ∧ (rs = [] → (buildP g rs).1 = (buildP g rs).2)
  | [], _ => ⟨hg, hg, by rw [show buildP g [] = (g, g) from rfl]; exact R_nil (by omega), by rw [show buildP g [] = (g, g) from rfl]; exact Nat.gcd_self g, rfl, fun _ => rfl⟩
  | (true, n) :: l, h => by
    obtain ⟨h1, h2, h3⟩ := h
    obtain ⟨a1, a2, a3, a4, a5, a6⟩ := buildP_ok hg h3
    have e : buildP g ((true, n) :: l) = ((buildP g l).1 + n * (buildP g l).2, (buildP g l).2) := rfl
    rw [e]
    generalize buildP g l = p at *
    obtain ⟨x, y⟩ := p
    dsimp only at *
    have hxy : x ≤ y := by
      cases l with
      | nil => rw [a6 rfl]; exact Nat.le_refl _
      | cons q l =>
        have hq := h2 q rfl
        have hq2 : q.1 = false := by cases e : q.1 with
          | false => rfl
          | true => exact absurd e hq
        have a5' : (if q.1 then decide (y < x) else decide (x < y)) = true := a5
        rw [hq2] at a5'
        have := of_decide_eq_true a5'
        omega
    have hm : y ≤ n * y := Nat.le_mul_of_pos_left _ h1
    have hd := div_run (n := n) a2 a1 hxy
    have hgt : x + n * y > y := by omega
    refine ⟨by omega, a2, ?_, ?_, ?_, fun z => by cases z⟩
    · rw [R_x a2 hgt, hd, Nat.add_sub_cancel, a3]
    · rw [Nat.gcd_add_mul_right_left]
      exact a4
    · show decide (y < x + n * y) = true
      exact decide_eq_true (by omega)
  | (false, n) :: l, h => by
    obtain ⟨h1, h2, h3⟩ := h
    obtain ⟨a1, a2, a3, a4, a5, a6⟩ := buildP_ok hg h3
    have e : buildP g ((false, n) :: l) = ((buildP g l).1, (buildP g l).2 + n * (buildP g l).1) := rfl
    rw [e]
    generalize buildP g l = p at *
    obtain ⟨x, y⟩ := p
    dsimp only at *
    have hxy : y ≤ x := by
      cases l with
      | nil => rw [a6 rfl]; exact Nat.le_refl _
      | cons q l =>
        have hq := h2 q rfl
        have hq2 : q.1 = true := by cases e : q.1 with
          | true => rfl
          | false => exact absurd e hq
        have a5' : (if q.1 then decide (y < x) else decide (x < y)) = true := a5
        rw [hq2] at a5'
        have := of_decide_eq_true a5'
        omega
    have hm : x ≤ n * x := Nat.le_mul_of_pos_left _ h1
    have hd := div_run (n := n) a1 a2 hxy
    have hgt : y + n * x > x := by omega
    refine ⟨a1, by omega, ?_, ?_, ?_, fun z => by cases z⟩
    · rw [R_y a1 hgt, hd, Nat.add_sub_cancel, a3]
    · rw [Nat.gcd_add_mul_right_right]
      exact a4
    · show decide (x < y + n * x) = true
      exact decide_eq_true (by omega)
theorem buildP_le {g B : Nat} : ∀ {rs : List (Bool × Nat)}, (∀ r ∈ rs, r.2 ≤ B) → (buildP g rs).1 ≤ g * (B + 1) ^ rs.length ∧ (buildP g rs).2 ≤ g * (B + 1) ^ rs.length
  | [], _ => by
    show g ≤ g * (B + 1) ^ 0 ∧ g ≤ g * (B + 1) ^ 0
    rw [Nat.pow_zero, Nat.mul_one]
    exact ⟨Nat.le_refl _, Nat.le_refl _⟩
  | r :: l, h => by
    have ih := buildP_le (g := g) fun q hq => h q (List.mem_cons_of_mem _ hq)
    have hr := h r List.mem_cons_self
    rw [List.length_cons, Nat.pow_succ, ← Nat.mul_assoc]
    generalize g * (B + 1) ^ l.length = M at *
    have m1 : ∀ z, z ≤ M → z ≤ M * (B + 1) := fun z hz => Nat.le_trans hz (Nat.le_mul_of_pos_right _ (Nat.succ_pos _))
    have m2 : ∀ u v, u ≤ M → v ≤ M → u + r.2 * v ≤ M * (B + 1) := fun u v hu hv => by
      have : r.2 * v ≤ B * M := Nat.mul_le_mul hr hv
      rw [Nat.mul_add, Nat.mul_one, Nat.mul_comm M B]
      omega
    unfold buildP
    cases r.1
    · exact ⟨m1 _ ih.1, m2 _ _ ih.2 ih.1⟩
    · exact ⟨m2 _ _ ih.1 ih.2, m1 _ ih.2⟩
theorem AltP.drop {rs : List (Bool × Nat)} (h : AltP rs) : ∀ n, AltP (rs.drop n) := by
  intro n
  induction n generalizing rs with
  | zero => exact h
  | succ n ih =>
    cases rs with
    | nil => exact h
    | cons r l => exact ih h.2.2
theorem AltP.pos {rs : List (Bool × Nat)} (h : AltP rs) : ∀ r ∈ rs, 1 ≤ r.2 := by
  induction rs with
  | nil => exact fun r hr => absurd hr List.not_mem_nil
  | cons q l ih =>
    intro r hr
    rcases List.mem_cons.mp hr with e | e
    · rw [e]; exact h.1
    · exact ih h.2.2 r e
theorem AltP.next {rs : List (Bool × Nat)} (h : AltP rs) : ∀ (i : Nat) (r q : Bool × Nat), rs[i]? = some r → rs[i + 1]? = some q → r.1 ≠ q.1 := by
  induction rs with
  | nil => exact fun i r q hr => by cases hr
  | cons a l ih =>
    intro i r q hr hq
    cases i with
    | zero =>
      cases hr
      rw [List.getElem?_cons_succ] at hq
      have : l.head? = some q := by rw [List.head?_eq_getElem?]; exact hq
      exact fun z => h.2.1 q this z.symm
    | succ i => exact ih h.2.2 i r q (by simpa using hr) (by simpa using hq)
theorem buildP_drop {g : Nat} {rs : List (Bool × Nat)} {i : Nat} {r : Bool × Nat} (h : rs[i]? = some r) : buildP g (rs.drop i) = if r.1 then ((buildP g (rs.drop (i + 1))).1 + r.2 * (buildP g (rs.drop (i + 1))).2, (buildP g (rs.drop (i + 1))).2) else ((buildP g (rs.drop (i + 1))).1, (buildP g (rs.drop (i + 1))).2 + r.2 * (buildP g (rs.drop (i + 1))).1) := by
  obtain ⟨hi, e⟩ := List.getElem?_eq_some_iff.mp h
  rw [List.drop_eq_getElem_cons hi, e]
  rfl
end Bx

-- needs lists
-- imports HandS.TupMul
/-! tuple * n, n at least 1 (tuple * 1 is the tuple itself) -/
namespace Bx
open PySem PySem.Spec PyProof.Rows L2
theorem tuple_mul1 (l : Addr) (items : Array Value) (n : Nat) (dd : Option Addr) (sl : Array (Option Value)) (u : PySem.Tok) :
    Meets (Builtin.«tuple.__mul__» ⟨[.ref l, .int 1 u], []⟩) (fun _ R s => s.heap.get? l = some { cls := .type "tuple", dict := dd, data := .seq items n, slots := sl } ∧ R (.ok (.ret (Value.ref l))) s) :=
  .of_wp fun prog w A R s h => by
    obtain ⟨hp, g, d, tk, os⟩ := s
    obtain ⟨hl, h⟩ := h
    have f1 := AutoSeq1.idx_int
    have c0 : (decide ((1 : Int) < -(2 ^ 63)) || decide ((1 : Int) ≥ 2 ^ 63)) = false := by decide
    have c1 : (items.isEmpty || (1 : Int) == 1) = true := by rw [show ((1 : Int) == 1) = true from rfl, Bool.or_true]
    wp_walk using wpAny_loadPart' hl
    repeat (first
      | (refine wpAny_ite_false (decide_eq_false (by rw [c0]; exact Bool.false_ne_true)) ?_; wp_walk using wpAny_loadPart' hl)
      | (refine wpAny_ite_true (decide_eq_true c1) ?_; wp_walk using wpAny_loadPart' hl))
    exact ⟨_, rfl, h⟩
def rRepTA (K : PySem.W.Frag) : R2 := fun x y H Q => ∃ l k xs, x = .ref l ∧ y = .int k ∧ SqT K H l xs ∧ xs ≠ [] ∧ 1 ≤ k ∧ k ≤ 1000 ∧ xs.length ≤ 1000 ∧ (k = 1 → Q (.ref l) H) ∧ (2 ≤ k → ∀ p, H p = none → Q (.ref p) (upd H p (.tup (List.replicate k.toNat xs).flatten)))
theorem op_repTA {X : Cx} : OpR X (binaryOp .Mult) (rRepTA X.K) := by
  intro pins s σ H x y v u Q I rx ry h
  obtain ⟨l, k, xs, rfl, rfl, hT, hne, h1, h2, hz, q1, q2⟩ := h
  by_cases h3 : 2 ≤ k
  · exact op_repT pins s σ H _ _ v u Q I rx ry ⟨l, k, xs, rfl, rfl, hT, hne, h3, h2, hz, q2 h3⟩
  obtain rfl : k = 1 := by omega
  cases rx
  obtain ⟨t, rfl⟩ := ry
  obtain ⟨its, r, ⟨⟨cls, dd, data, sl⟩, ho, hc, n, hd⟩, hs⟩ := I.tuple hT
  simp only at hc hd
  subst hc hd
  refine wpAny_binaryOp_repeat_ref (T := "tuple") (U := "int") (by decide) ⟨_, ho, rfl⟩ (fun s' => typeIs_int s' 1 t) noFill_tuple_mul F.fills_int_mul F.slot_int_rmul repeat_tuple F.slot_int_index.lookup
    (call_meets F.slot_int_rmul (typeIs_int s 1 t) F.entry_int_rmul (F.args_int_rmul_2 _ _) (int_rmul_tuple 1 t l its.toArray n dd sl)
      ⟨ho, rfl, ⟨_, ho, rfl⟩, call_meets F.slot_tuple_mul ⟨_, ho, rfl⟩ F.entry_tuple_mul (F.args_tuple_mul_2 _ _) (tuple_mul1 l its.toArray n dd sl t) ⟨ho, ?_⟩⟩)
  exact ⟨.ref l, H, I, rfl, q1 rfl⟩
end Bx

-- needs lists
/-! the law's bag of draws -/
namespace Bx
open PySem PySem.Spec PyProof.Rows L2
structure Bag (H : Hp) (b : Addr) : Prop where
  ex : ∃ (c : Addr) (xs : List Int) (i hold seed : Int), H b = some (.lst [.ref c, .int i, .int hold, .int seed]) ∧ H c = some (.lst (xs.map V.int)) ∧ b ≠ c ∧ xs.length ≤ 63 ∧ 0 ≤ i ∧ 0 ≤ hold ∧ 0 ≤ seed ∧ seed < 2147483647
theorem Bag.keep {H H' : Hp} {b : Addr} (B : Bag H b) (e : Same H H') : Bag H' b := by
  obtain ⟨c, xs, i, hold, seed, h1, h2, r⟩ := B.ex
  exact ⟨c, xs, i, hold, seed, e _ _ h1, e _ _ h2, r⟩
theorem Bag.at_ {H : Hp} {b : Addr} (B : Bag H b) : ∃ o, H b = some o := by
  obtain ⟨c, xs, i, hold, seed, h1, _⟩ := B.ex
  exact ⟨_, h1⟩
theorem Bag.ne {H : Hp} {b p : Addr} (B : Bag H b) (h : H p = none) : p ≠ b := fun e => by
  obtain ⟨o, q⟩ := B.at_
  rw [← e, h] at q
  cases q
/-- a tuple is not the bag -/
theorem Bag.neT {H : Hp} {b p : Addr} {xs : List V} (B : Bag H b) (h : H p = some (.tup xs)) : p ≠ b := fun e => by
  obtain ⟨c, ys, i, hold, seed, h1, _⟩ := B.ex
  rw [e, h1] at h
  cases h
theorem emod_bd (x : Int) {m : Int} (h : 0 < m) : 0 ≤ x % m ∧ x % m < m := ⟨Int.emod_nonneg x (by omega), Int.emod_lt_of_pos x h⟩
end Bx
namespace Bx
open PySem PySem.Spec PyProof.Rows L2
/-- a tuple stays behind a draw -/
theorem Bag.seqT {K : PySem.W.Frag} {H H' : Hp} {b a : Addr} {xs : List V} (B : Bag H b) (e : Kp b H H') (h : SqT K H a xs) : SqT K H' a xs := by
  have nb : ∀ o, H a = some o → (∀ ys, o ≠ .lst ys) → a ≠ b := fun o q n z => by
    obtain ⟨c, ys, i, hold, seed, h1, _⟩ := B.ex
    rw [z, h1] at q
    exact n _ (Option.some.inj q).symm
  rcases h with (h | ⟨o, h⟩) | h
  · exact .inl (.inl (e _ _ (nb _ h fun _ z => by cases z) h))
  · exact .inl (.inr ⟨o, e _ _ (nb _ h fun _ z => by cases z) h⟩)
  · exact .inr h
end Bx
-- needs deep
namespace Bx
open PySem PySem.Spec PyProof.Rows L2
theorem Bag.sameT {H H' : Hp} {b : Addr} (B : Bag H b) (e : Kp b H H') : SameT H H' := fun a o q n => by
  refine e a o (fun z => ?_) q
  obtain ⟨c, ys, i, hold, seed, h1, _⟩ := B.ex
  rw [z, h1] at q
  exact n _ (Option.some.inj q).symm
/-- another list changes: not the one of the script's numbers -/
theorem Bag.other {H : Hp} {b D c : Addr} {r : List V} {o : HO} (B : Bag H b) (hc : H b = some (.lst (.ref c :: r))) (nb : D ≠ b) (n : c ≠ D) : Bag (L2.upd H D o) b := by
  obtain ⟨c', xs, i, hold, seed, h1, h2, h3⟩ := B.ex
  rw [hc] at h1
  cases h1
  exact ⟨c, xs, i, hold, seed, by rw [upd_ne nb.symm]; exact hc, by rw [upd_ne n]; exact h2, h3⟩
theorem Bag.inn {H : Hp} {b : Addr} (B : Bag H b) : ∃ c r, H b = some (.lst (.ref c :: r)) ∧ ∃ o, H c = some o := by
  obtain ⟨c, xs, i, hold, seed, h1, h2, _⟩ := B.ex
  exact ⟨c, _, h1, _, h2⟩
end Bx

-- needs odd tupmul bag
-- imports HandS.TupAny
/-! odd tables: lists of five parts that are no table -/
namespace Bx
open PySem PySem.Spec PyProof.Rows L2
theorem catA_ok {K : PySem.W.Frag} {H : Hp} {a b : Addr} {xs ys : List V} {Q : VK} (ha : SqT K H a xs) (hb : SqT K H b ys) (hz : xs.length + ys.length ≤ 100000) (k : ∀ q H', Same H H' → SqT K H' q (xs ++ ys) → Q (.ref q) H') : rCatA K (.ref a) (.ref b) H Q := by
  refine ⟨a, b, xs, ys, rfl, rfl, ha, hb, sz hz, fun e => ?_, fun _ e => ?_, fun _ _ p hp => ?_⟩
  · subst e
    exact k b H (Same.refl _) hb
  · subst e
    exact k a H (Same.refl _) (by rw [List.append_nil]; exact ha)
  · exact k p _ (same_new hp) (SqT.of upd_same)
theorem repTA_ok {K : PySem.W.Frag} {H : Hp} {a : Addr} {x : V} {n : Nat} {Q : VK} (ha : SqT K H a [x]) (h1 : 1 ≤ n) (h2 : n ≤ 1000) (k : ∀ q H', Same H H' → SqT K H' q (List.replicate n x) → Q (.ref q) H') : rRepTA K (.ref a) (.int (n : Int)) H Q := by
  refine ⟨a, n, [x], rfl, rfl, ha, by simp, by omega, by omega, by simp, fun e => ?_, fun _ p hp => ?_⟩
  · have : n = 1 := by omega
    subst this
    exact k a H (Same.refl _) ha
  · refine k p _ (same_new hp) (SqT.of ?_)
    rw [upd_same]
    have : ((n : Int)).toNat = n := by omega
    rw [this]
    have : ∀ n : Nat, (List.replicate n [x]).flatten = List.replicate n x := fun n => by
      induction n with
      | zero => rfl
      | succ n ih => rw [List.replicate_succ, List.flatten_cons, ih]; rfl
    rw [this]
theorem slA_any {K : PySem.W.Frag} {H : Hp} {a : Addr} {xs : List V} {lo hi : Option Int} {Q : VK} (hs : SqT K H a xs) (k : ∀ q H', Same H H' → SqT K H' q (cutV xs lo hi) → Q (.ref q) H') : rSlA K (.ref a) lo hi H Q := by
  refine ⟨a, xs, rfl, hs, fun w => ?_, fun w q hq => ?_⟩
  · have hw : cutV xs lo hi = xs := by
      unfold cutV
      rw [w.1, w.2, List.drop_zero, Nat.sub_zero, List.take_length]
    exact k a H (Same.refl _) (by rw [hw]; exact hs)
  · exact k q _ (same_new hq) (SqT.of upd_same)
theorem cut_to' {xs : List V} {n : Nat} (h : n ≤ xs.length) : cutV xs none (some (n : Int)) = xs.take n := by
  unfold cutV
  rw [HT.sIx_none, HT.sIx_nat, List.drop_zero, Nat.sub_zero, Nat.min_eq_left h]
theorem cut_last {xs : List V} (h : 0 < xs.length) : cutV xs none (some (-1)) = xs.take (xs.length - 1) := by
  unfold cutV
  rw [HT.sIx_none, List.drop_zero, Nat.sub_zero]
  congr 1
  simp only [HT.sIx]
  rw [if_pos (show (-1 : Int) < 0 by decide)]
  omega
theorem dpTake {K : PySem.W.Frag} {H : Hp} : ∀ {vs : List V} {ds : List PyData} (n : Nat), DpAll K H vs ds → DpAll K H (vs.take n) (ds.take n)
  | _, _, 0, _ => by rw [List.take_zero, List.take_zero]; exact .nil
  | _, _, _ + 1, .nil => .nil
  | _, _, n + 1, .cons h t => .cons h (dpTake n t)
theorem dpDrop {K : PySem.W.Frag} {H : Hp} : ∀ {vs : List V} {ds : List PyData} (n : Nat), DpAll K H vs ds → DpAll K H (vs.drop n) (ds.drop n)
  | _, _, 0, h => h
  | _, _, _ + 1, .nil => .nil
  | _, _, n + 1, .cons _ t => dpDrop n t
theorem dpRep {K : PySem.W.Frag} {H : Hp} {v : V} {d : PyData} (h : Dp K H v d) : ∀ n : Nat, DpAll K H (List.replicate n v) (List.replicate n d)
  | 0 => .nil
  | n + 1 => .cons h (dpRep h n)
theorem noLs_rep {d : PyData} (h : noL d = true) : ∀ n : Nat, noLs (List.replicate n d) = true
  | 0 => rfl
  | n + 1 => by rw [List.replicate_succ, noLs, h, noLs_rep h n]; rfl
theorem noLs_take : ∀ {ds : List PyData} (n : Nat), noLs ds = true → noLs (ds.take n) = true
  | _, 0, _ => by rw [List.take_zero]; rfl
  | [], _ + 1, _ => rfl
  | d :: ds, n + 1, h => by
    rw [noLs, Bool.and_eq_true] at h
    rw [List.take_succ_cons, noLs, h.1, noLs_take n h.2]; rfl
theorem noLs_drop : ∀ {ds : List PyData} (n : Nat), noLs ds = true → noLs (ds.drop n) = true
  | _, 0, h => h
  | [], _ + 1, _ => rfl
  | d :: ds, n + 1, h => by
    rw [noLs, Bool.and_eq_true] at h
    exact noLs_drop n h.2
theorem noLs_app : ∀ {ds es : List PyData}, noLs ds = true → noLs es = true → noLs (ds ++ es) = true
  | [], _, _, h => h
  | d :: ds, es, h, h2 => by
    rw [noLs, Bool.and_eq_true] at h
    rw [List.cons_append, noLs, h.1, noLs_app h.2 h2]; rfl
/-- five parts that are no table -/
def BadT (K : PySem.W.Frag) (H : Hp) (v : V) : Prop := ∃ dm df ds db dr : PyData, Dp K H v (.tuple [dm, df, ds, db, dr]) ∧ lenD dr ≤ 1000 ∧ lenD db ≤ 1000 ∧ noL (.tuple [dm, df, ds, db, dr]) = true ∧ tableD dm df ds db dr = false
theorem BadT.same {K : PySem.W.Frag} {H H' : Hp} {v : V} (e : Same H H') (h : BadT K H v) : BadT K H' v := by
  obtain ⟨dm, df, ds, db, dr, h1, r⟩ := h
  exact ⟨dm, df, ds, db, dr, Dp.same e h1, r⟩
theorem BadT.sameT {K : PySem.W.Frag} {H H' : Hp} {v : V} (e : SameT H H') (h : BadT K H v) : BadT K H' v := by
  obtain ⟨dm, df, ds, db, dr, h1, h2, h3, h4, h5⟩ := h
  exact ⟨dm, df, ds, db, dr, Dp.sameT e h4 h1, h2, h3, h4, h5⟩
theorem bad_new {K : PySem.W.Frag} {H : Hp} {p : Addr} {m f s b r : V} {dm df ds db dr : PyData} (h : H p = none) (hm : Dp K H m dm) (hf : Dp K H f df) (hs : Dp K H s ds) (hb : Dp K H b db) (hr : Dp K H r dr) (lr : lenD dr ≤ 1000) (lb : lenD db ≤ 1000)
    (nm : noL dm = true) (nf : noL df = true) (ns : noL ds = true) (nb : noL db = true) (nr : noL dr = true) (no : tableD dm df ds db dr = false) : BadT K (upd H p (.tup [m, f, s, b, r])) (.ref p) := by
  have e := same_new (o := .tup [m, f, s, b, r]) h
  refine ⟨dm, df, ds, db, dr, .tup (SqT.of upd_same) (.cons (Dp.same e hm) (.cons (Dp.same e hf) (.cons (Dp.same e hs) (.cons (Dp.same e hb) (.cons (Dp.same e hr) .nil))))), lr, lb, ?_, no⟩
  rw [noL, noLs, noLs, noLs, noLs, noLs, nm, nf, ns, nb, nr]
  rfl
theorem odd_cat {K : PySem.W.Frag} {H0 H1 HA : Hp} {D q D2 : Addr} {xs zs : List V} (hs : Same H0 H1) (hD : H1 D = some (.lst xs)) (hb : ∀ x ∈ xs, BadT K H1 x) (e : Same H1 HA) (hz : ∀ x ∈ zs, BadT K HA x) (hq : HA q = none) (h2 : upd HA q (.lst zs) D2 = none) :
    Same H0 (upd (upd HA q (.lst zs)) D2 (.lst (xs ++ zs))) ∧ upd (upd HA q (.lst zs)) D2 (.lst (xs ++ zs)) D2 = some (.lst (xs ++ zs)) ∧ ∀ x ∈ xs ++ zs, BadT K (upd (upd HA q (.lst zs)) D2 (.lst (xs ++ zs))) x := by
  have eq := same_new (o := .lst zs) hq
  have e2 := same_new (o := .lst (xs ++ zs)) h2
  refine ⟨((hs.trans e).trans eq).trans e2, upd_same, fun x hx => ?_⟩
  rcases List.mem_append.mp hx with z | z
  · exact (hb x z).same (e.trans (eq.trans e2))
  · exact (hz x z).same (eq.trans e2)
/-! why they are none -/
theorem no_f {i : Int} {f s b r : PyData} (h : truthsD i.toNat f = false) : tableD (.int i) f s b r = false := by simp [tableD, h]
theorem no_s {i : Int} {f s b r : PyData} (h : truthsD i.toNat s = false) : tableD (.int i) f s b r = false := by simp [tableD, h]
theorem no_r {i : Int} {f s b r : PyData} (h : isTupD r = false) : tableD (.int i) f s b r = false := by cases r <;> first | (simp [tableD]; done) | cases h
theorem no_row {i : Int} {f s b : PyData} {rs : List PyData} (h : rs.all (rowOkD rs.length) = false) : tableD (.int i) f s b (.tuple rs) = false := by simp [tableD, h]
theorem no_b {i : Int} {f s b : PyData} {rs : List PyData} (h : startsD i rs.length b = false) : tableD (.int i) f s b (.tuple rs) = false := by simp [tableD, h]
theorem truths_len {n : Nat} {ds : List PyData} (h : ds.length ≠ n) : truthsD n (.tuple ds) = false := by
  unfold truthsD
  dsimp only
  rw [decide_eq_false h]
  rfl
theorem starts_len {i : Int} {n : Nat} {ds : List PyData} (h : (ds.length : Int) ≠ i) : startsD i n (.tuple ds) = false := by
  unfold startsD
  dsimp only
  rw [decide_eq_false h]
  rfl
theorem starts_rep {m n : Nat} {d : PyData} (h0 : 0 < m) (h : spotD n d = false) : startsD (m : Int) n (.tuple (List.replicate m d)) = false := by
  unfold startsD
  dsimp only
  obtain ⟨m, rfl⟩ : ∃ k, m = k + 1 := ⟨m - 1, by omega⟩
  rw [List.replicate_succ, List.all_cons, h, Bool.false_and, Bool.and_false]
theorem truths_rep {m : Nat} {d : PyData} (h0 : 0 < m) (h : isBoolD d = false) : truthsD m (.tuple (List.replicate m d)) = false := by
  unfold truthsD
  dsimp only
  obtain ⟨m, rfl⟩ : ∃ k, m = k + 1 := ⟨m - 1, by omega⟩
  rw [List.replicate_succ, List.all_cons, h, Bool.false_and, Bool.and_false]
theorem starts_none {m : Nat} {l : List Nat} (h0 : 0 < m) : startsD (m : Int) 0 (natsD l) = false := by
  unfold natsD startsD
  dsimp only
  cases l with
  | nil =>
    rw [decide_eq_false (by show ¬ (((0 : Nat)) : Int) = (m : Int); omega)]
    rfl
  | cons a l =>
    have : spotD 0 (.int (a : Int)) = false := by
      unfold spotD
      dsimp only
      rw [decide_eq_false (show ¬ ((a : Int) < ((0 : Nat) : Int)) by omega), Bool.and_false]
    rw [List.map_cons, List.all_cons, this, Bool.false_and, Bool.and_false]
/-- a row that is none -/
def BadR (K : PySem.W.Frag) (H : Hp) (n : Nat) (v : V) : Prop := ∃ d, Dp K H v d ∧ noL d = true ∧ rowOkD n d = false
theorem BadR.same {K : PySem.W.Frag} {H H' : Hp} {n : Nat} {v : V} (e : Same H H') (h : BadR K H n v) : BadR K H' n v := by
  obtain ⟨d, h1, r⟩ := h
  exact ⟨d, Dp.same e h1, r⟩
theorem BadR.sameT {K : PySem.W.Frag} {H H' : Hp} {n : Nat} {v : V} (e : SameT H H') (h : BadR K H n v) : BadR K H' n v := by
  obtain ⟨d, h1, h2, h3⟩ := h
  exact ⟨d, Dp.sameT e h2 h1, h2, h3⟩
theorem badR_new {K : PySem.W.Frag} {H : Hp} {p : Addr} {n : Nat} {xs : List V} {ds : List PyData} (h : H p = none) (A : DpAll K H xs ds) (hn : noLs ds = true) (no : rowOkD n (.tuple ds) = false) : BadR K (upd H p (.tup xs)) n (.ref p) :=
  ⟨.tuple ds, .tup (SqT.of upd_same) (Dp.sameAll (same_new h) A), by rw [noL]; exact hn, no⟩
theorem dpB {K : PySem.W.Frag} {H : Hp} : ∀ l : List Bool, DpAll K H (l.map V.bl) (l.map PyData.bool)
  | [] => .nil
  | b :: l => .cons (.bl b) (dpB l)
theorem dpN {K : PySem.W.Frag} {H : Hp} : ∀ l : List Nat, DpAll K H (l.map fun n : Nat => V.int (n : Int)) (l.map fun n : Nat => PyData.int (n : Int))
  | [] => .nil
  | b :: l => .cons (.int _) (dpN l)
end Bx

-- needs lists
-- imports HandS.Style KE.KRevSl HandS.Zip HandS.Walk
/-! t[::-1] of a tuple of any length; zip of two tuples -/
namespace Bx
open PySem PySem.Spec PyProof.Rows L2 HT
theorem rev_pick (xs : List Value) : (List.range xs.length).filterMap (fun (k : Nat) => xs.toArray[(((xs.length : Nat) : Int) - 1 + (k : Int) * -1).toNat]?) = xs.reverse := by
  have e1 : (List.range xs.length).filterMap (fun (k : Nat) => xs.toArray[(((xs.length : Nat) : Int) - 1 + (k : Int) * -1).toNat]?) = ((List.range xs.length).map fun k => xs.length - 1 - k).filterMap (xs.toArray[·]?) := by
    rw [List.filterMap_map]
    have go : ∀ l : List Nat, (∀ k ∈ l, k < xs.length) → l.filterMap (fun (k : Nat) => xs.toArray[(((xs.length : Nat) : Int) - 1 + (k : Int) * -1).toNat]?) = l.filterMap ((fun x => xs.toArray[x]?) ∘ fun k => xs.length - 1 - k) := fun l => by
      induction l with
      | nil => intro _; rfl
      | cons k l ih =>
        intro h
        have hk := h k List.mem_cons_self
        have ek : (((xs.length : Nat) : Int) - 1 + (k : Int) * -1).toNat = xs.length - 1 - k := by omega
        rw [List.filterMap_cons, List.filterMap_cons, ih fun q hq => h q (List.mem_cons_of_mem _ hq), ek]
        rfl
    exact go _ fun k hk => List.mem_range.mp hk
  have e2 := PySem.W.krv_all xs.toArray
  rw [e1, PySem.W.krv_range, List.filterMap_reverse]
  congr 1
section
variable {prog : Program} {w : World} {A : Around} {E : Value → Shared → Prop} {s : Shared}
theorem sliceApplied_revN {sl : Addr} {v : Value} {n : Nat} {Q : Int × Int × Nat → Shared → Prop} (hs : s.heap.IsSliceOf sl .none .none v) (p : IsPart v (some (-1)))
    (h : Q ((n : Int) - 1, -1, n) s) : wpAny (model prog w) A (Builtin.Slice.sliceApplied (.ref sl) (pure (n : Int))) Q E s := by
  obtain ⟨os, hos, hcs, hds⟩ := id hs
  cases p with
  | int i t =>
    unfold Builtin.Slice.sliceApplied Builtin.Slice.sliceFields
    refine wpAny_bind (wpAny_bind (wpAny_field hos hds (x := .none) rfl (wpAny_bind (wpAny_field hos hds (x := .none) rfl (wpAny_bind (wpAny_field hos hds (x := .int (-1) t) rfl (wpAny_pure ?_)))))))
    refine wpAny_bind (slicePart_int ?_)
    show wpAny _ _ (if ((-1 : Int) == 0) = true then _ else _) _ _ s
    rw [if_neg (by decide)]
    refine wpAny_bind (slicePart_none (wpAny_bind (slicePart_none (wpAny_bind (wpAny_pure ?_)))))
    have e : Builtin.Slice.slicePlaces ((n : Int) - 1) (-1) (-1) = n := by
      unfold Builtin.Slice.slicePlaces
      rw [if_neg (by decide)]
      by_cases hn : (n : Int) - 1 > -1
      · rw [if_pos hn, show (- -1 : Int) = 1 by decide, Int.ediv_one]
        omega
      · rw [if_neg hn]
        omega
    refine wpAny_pure ?_
    show Q ((n : Int) - 1, -1, Builtin.Slice.slicePlaces ((n : Int) - 1) (-1) (-1)) s
    rw [e]
    exact h
theorem getItem_revN {t sl : Addr} {xs : List Value} {v : Value} {Q : Value → Shared → Prop} (ht : IsTup s.heap t xs.toArray) (hz : xs.length ≤ sizeLine) (hs : s.heap.IsSliceOf sl .none .none v) (p : IsPart v (some (-1)))
    (h : Q (.ref s.heap.objs.size) { s with heap := s.heap.push { cls := .type "tuple", data := .seq xs.reverse.toArray } }) : wpAny (model prog w) A (getItem (.ref t) (.ref sl)) Q E s := by
  have htake : sizeOk (.seq xs.reverse.toArray) := by
    show xs.reverse.toArray.size ≤ sizeLine
    rw [List.size_toArray, List.length_reverse]
    exact hz
  obtain ⟨os, hos, hcs, hds⟩ := id hs
  have hTs : s.TypeIs (.ref sl) "slice" := ⟨os, hos, hcs⟩
  unfold getItem
  try with_reducible refine wpAny_holding ?_
  first | refine wpAny_bind (wpAny_pure ?_) | skip
  refine wpAny_bind (wpAny_sequenceKey ht.typeIs (by decide) ?_)
  refine wpAny_bind (wpAny_callSpecial?_slot (name := Str.ofString "__getitem__") ht.typeIs PyProof.Rows.slot_tuple_getitem
    (wpAny_call_entry PyProof.Rows.slot_tuple_getitem ht.typeIs entry_tuple_getitem ?_ (args_tuple_getitem _ _)))
  show wpAny _ _ (Builtin.Tuple.tupleItemsOf (.ref t) >>= _) _ _ s
  refine wpAny_bind (tupleItemsOf_ ht ?_)
  refine wpAny_bind (wpAny_typeOf hTs ?_)
  rw [if_pos (by decide)]
  refine wpAny_bind (sliceApplied_revN (n := xs.length) hs p ?_)
  have nw : (((xs.length : Nat) : Int) - 1 == 0 && (-1 : Int) == 1 && xs.length == xs.toArray.size) = false := by
    rw [show ((-1 : Int) == 1) = false from rfl, Bool.and_false, Bool.false_and]
  simp only [nw, rev_pick]
  first
    | exact wpAny_bind (m := Builtin.Tuple.tupleExact _) (wpAny_newObj_type (wpAny_pure ⟨_, rfl, wpAny_pure h⟩) htake)
    | exact wpAny_bind (m := Builtin.Tuple.tupleExact _) (wpAny_newObj_type (wpAny_bind (wpAny_pure (wpAny_pure ⟨_, rfl, wpAny_pure h⟩))) htake)
    | exact wpAny_bind (wpAny_bind (m := Builtin.Tuple.tupleExact _) (wpAny_newObj_type (wpAny_pure (wpAny_pure ⟨_, rfl, wpAny_pure h⟩)) htake))
    | exact wpAny_bind (wpAny_bind (m := Builtin.Tuple.tupleExact _) (wpAny_newObj_type (wpAny_pure ⟨_, rfl, wpAny_pure h⟩) htake))
end
/-- t[::-1] -/
def tRevTn (K : PySem.W.Frag) (te : TE) : TE := fun σ H Q => te σ H fun z H1 => ∃ a xs, z = .ref a ∧ SqT K H1 a xs ∧ ∀ p, H1 p = none → Q (.ref p) (upd H1 p (.tup xs.reverse))
section
variable {X : Cx}
theorem pe_revTn {e : Expr} {te : TE} {k : Nat} {p1 p2 p3 pos : Pos} (he : PE X e te) : PE X (.Subscript e (.Slice none none (some (.UnaryOp .USub (.Constant (.int 1) k p1) p2)) p3) pos) (tRevTn X.K te) := by
  refine ⟨fun pins s σ H Q I h => ?_⟩
  refine Subscript_ (thn (he.run pins s σ H _ I h) fun v s1 ⟨z, H1, I1, r1, q1⟩ => ?_)
  obtain ⟨a, xs, ex, hx, q⟩ := q1
  subst ex
  cases r1
  have hst : PO X (some (.UnaryOp .USub (.Constant (.int 1) k p1) p2)) (tPart (tUn (rU fun i => .int (-i)) (tC (.int 1)))) := po_some (pe_un un_neg pe_int)
  refine wpAny_Slice (thn (po_none.run pins s1 σ H1 (fun o H2 => o = none ∧ H2 = H1) I1 ⟨rfl, rfl⟩) fun vl s2 ⟨l, H2, I2, pl, el, e2⟩ => ?_)
  subst el e2
  refine thn (po_none.run pins s2 σ H2 (fun o H3 => o = none ∧ H3 = H2) I2 ⟨rfl, rfl⟩) fun vu s3 ⟨u, H3, I3, pu, eu, e3⟩ => ?_
  subst eu e3
  refine thn (hst.run pins s3 σ H3 (fun o H4 => o = some (-1) ∧ H4 = H3) I3 ⟨1, rfl, -1, rfl, rfl, rfl⟩) fun vs s4 ⟨o, H4, I4, ps, eo, e4⟩ => ?_
  subst eo e4
  have I5 : Inv X pins σ H4 { s4 with heap := s4.heap.push { cls := .type "slice", data := .fields #[vl, vu, vs] } } := I4.kept (t' := s4.toks) fun b ob q => Heap.get?_push_of_some _ q
  obtain ⟨its, r, ht, hz⟩ := I5.tuple hx
  have hlen := r.length
  cases pl
  cases pu
  show wpAny (model X.prog X.w) X.A (subscriptTail e (.Slice none none (some (.UnaryOp .USub (.Constant (.int 1) k p1) p2)) p3) (.ref a) (.ref s4.heap.objs.size)) (EP X pins σ Q) X.xe { s4 with heap := s4.heap.push { cls := .type "slice", data := .fields #[.none, .none, vs] } }
  refine tail_any (ops := [.ref a, .ref s4.heap.objs.size]) ht.typeIs (PyProof.Rows.slot_tuple_getitem.lookup) ?_ (by with_unfolding_all rfl)
  refine getItem_revN ht (by omega) (Heap.IsSliceOf.new _ .none .none vs) ps ?_
  refine ⟨.ref _, _, I5.laid (t' := s4.toks) (o := .tup xs.reverse) (fun b ob q => Heap.get?_push_of_some _ q) (Nat.le_refl _) ?_, rfl, q _ (I5.hok.fresh (Nat.le_refl _))⟩
  exact ⟨by rw [List.length_reverse]; exact hz, _, r.reverse, IsTup.new _ _⟩
end
theorem walk_zipTT {K : PySem.W.Frag} {a b : Addr} {xs ys : List V} {n : Nat} (hn : n = min xs.length ys.length) : Walk (RZ.ItzT K a b) n (fun H => SqT K H a xs ∧ SqT K H b ys) (YPair (fun i => xs[i]?) (fun i => ys[i]?)) := by
  subst hn
  refine ⟨fun i _ hi q => ?_, fun _ q => ⟨xs, ys, q.1, q.2, by omega⟩, fun i H v H' _ q y => ?_⟩
  · have h1 : i < xs.length := by omega
    have h2 : i < ys.length := by omega
    exact ⟨xs, ys, xs[i], ys[i], q.1, q.2, by simp [h1], by simp [h2]⟩
  · obtain ⟨T, x, z, h1, h2, h3, h4, h5⟩ := y
    exact ⟨T, x, z, h1, h2, h3, h4 xs q.1, h5 ys q.2⟩
end Bx

-- imports HandS.ExcInit KE.KExcSuper KE.KSuper
/-! an own exception's __init__ that says super().__init__(text) -/
namespace Bx
open PySem PySem.Spec PyProof.Rows L2
/-- what the program's main text must be: its file, no own super -/
structure MainP (P : Program) (file : Str) : Prop where
  file : ((P.main.file : Str) == file) = true
  sup : (P.main.scope.names.lookup ("super" : Str)).isSome = false
structure ScopeS (N ps : List Str) (sc : Scope) : Prop where
  kind : sc.kind = .function
  co : sc.isCoroutine = false
  gen : sc.isGenerator = false
  nd : N.Nodup
  pre : N.take ps.length = ps
  par : ∀ x ∈ ps, sc.names.lookup x = some .local
  nocell : ∀ y ∈ sc.names, y.2 ≠ .cell
  free : ∀ y ∈ sc.names, y.2 = .free → y.1 = "__class__"
  cls : sc.names.lookup ("__class__" : Str) = some .free
  sup : sc.names.lookup ("super" : Str) = some .globalImplicit
abbrev envS (qual : Str) (scope : Scope) (L f : Addr) (cd : Value) (cc : Addr) : PySem.Env := PySem.W.ksEnv qual scope L f cd cc
def cxS (CX : CXT) (P : Program) (w : World) (K : PySem.W.Frag) (mg : Str → Option Value) (base : Heap) (N : List Str) (qual : Str) (scope : Scope) (f : Addr) (cd : Value) (cc : Addr) (A : Around) (outer : List PySem.Env) (s : Shared) (H : Hp) (E : XK) : Cx where
  prog := P
  w := w
  K := K
  mg := mg
  base := base
  A := A.deeper (envS qual scope s.heap.objs.size f cd cc)
  N := N
  s_0 := s
  H_0 := H
  env := envS qual scope s.heap.objs.size f cd cc
  outer := outer
  stack := envS qual scope s.heap.objs.size f cd cc :: outer
  ex := []
  calm := true
  fn := fun _ => false
  pn := []
  xe := fun e s' => wpAny (model P w) (A.deeper (envS qual scope s.heap.objs.size f cd cc)) (leaving (envS qual scope s.heap.objs.size f cd cc) e) (fun _ s'' => CX outer H s E e s'') (fun e' s'' => CX outer H s E e' s'') s'
theorem zip_rev {ps : List Str} {us : List Value} (nd : ps.Nodup) {i : Nat} {x : Str} {u : Value} (hx : ps[i]? = some x) (hu : us[i]? = some u) : (ps.zip us).reverse.lookup x = some u := by
  have key : ∀ {l : List (Str × Value)}, (l.map (·.1)).Nodup → (x, u) ∈ l → l.lookup x = some u := by
    intro l
    induction l with
    | nil => intro _ h; cases h
    | cons p l ih =>
      intro nd h
      obtain ⟨y, v⟩ := p
      have nd' := List.nodup_cons.mp (show (y :: l.map (·.1)).Nodup from nd)
      rcases List.mem_cons.mp h with e | h
      · cases e
        simp [List.lookup]
      · have ne : x ≠ y := fun z => nd'.1 (by rw [← z]; exact List.mem_map.mpr ⟨(x, u), h, rfl⟩)
        have eb : (x == y) = false := by simpa using ne
        simp only [List.lookup, eb]
        exact ih nd'.2 h
  refine key ?_ ?_
  · rw [List.map_reverse, (List.reverse_perm _).nodup_iff]
    exact nd.sublist (by
      clear hx hu nd
      induction ps generalizing us with
      | nil => exact List.nil_sublist _
      | cons p ps ih =>
        cases us with
        | nil => exact List.nil_sublist _
        | cons u us =>
          rw [List.zip_cons_cons, List.map_cons]
          exact (ih (us := us)).cons_cons p)
  · rw [List.mem_reverse]
    refine List.mem_iff_getElem?.mpr ⟨i, ?_⟩
    rw [List.getElem?_zip_eq_some]
    exact ⟨hx, hu⟩
theorem inv_startS {CX : CXT} {P : Program} {w : World} {K : PySem.W.Frag} {mg : Str → Option Value} {base : Heap} {N ps : List Str} {qual : Str} {scope : Scope} {f cc : Addr} {cd : Value} {A : Around} {outer : List PySem.Env} {s : Shared} {H : Hp} {E : XK} {us : List Value} {vs : List V} {h₁ : Heap} {tk : Nat}
    (S : ScopeS N ps scope) (hd : A.handled = none) (e0 : Env0 P w K mg base A outer s H) (hl : vs.length = ps.length) (r : Vals vs us) (hcell : ∃ o, base.get? cc = some o ∧ ∃ v, o.data = .cell v)
    (hns : h₁.Ns s.heap.objs.size fun x => (ps.zip us).reverse.lookup x) (kp : ∀ b o, s.heap.get? b = some o → h₁.get? b = some o) :
    Inv (cxS CX P w K mg base N qual scope f cd cc A outer s H E) [] (L2.start N vs) H { s with heap := h₁, toks := tk } := by
  have hpl : ps.length ≤ N.length := by have := congrArg List.length S.pre; rw [List.length_take] at this; omega
  have noA : ∀ b : Addr, b ∉ (cxS CX P w K mg base N qual scope f cd cc A outer s H E).ex := fun b z => absurd (show b ∈ ([] : List Addr) from z) (by simp)
  have cl : ∀ {y c}, [(("__class__" : Str), cc)].lookup y = some c → y = "__class__" ∧ c = cc := fun {y c} e => by
    by_cases q : y = "__class__"
    · rw [q] at e
      simp [List.lookup] at e
      exact ⟨q, e.symm⟩
    · have eb : (y == ("__class__" : Str)) = false := by simpa using q
      simp [List.lookup, eb] at e
  obtain ⟨oc, hoc, v, hv⟩ := hcell
  refine ⟨⟨e0.mod, S.kind, rfl, rfl, Nat.le_refl _, fun y z c h1 h2 => ?_, fun y hy => ?_, fun y c z _ => (by cases z), fun _ => hd, Around.frames_deeper e0.frames, .inr ⟨rfl, rfl⟩, fun b z => absurd z (noA b), e0.bs, e0.bsz, fun b _ _ => noA b, fun b z => absurd z (noA b), e0.funs, e0.frf⟩,
    rfl, e0.bare, Un.kept kp, ⟨_, hns, fun i y v h1 h2 h3 => ?_⟩, fun y c h => ?_, e0.hok.fresh (Nat.le_refl _), fun y c h => ?_, fun p hp => absurd (show p ∈ ([] : List (Addr × Obj)) from hp) (by simp), e0.hok.kept kp, ?_⟩
  · exact (cl h1).1.trans (cl h2).1.symm
  · have hy : scope.names.lookup y = some .cell ∨ scope.names.lookup y = some .free := hy
    rcases hy with hy | hy
    · exact absurd rfl (S.nocell _ (PySem.mem_of_lookup hy))
    · have e := S.free _ (PySem.mem_of_lookup hy) rfl
      refine ⟨cc, ?_⟩
      show [(("__class__" : Str), cc)].lookup y = some cc
      rw [show y = "__class__" from e]
      simp [List.lookup]
  · have hi : i < vs.length := by
      unfold L2.start at h2
      by_cases hi : i < vs.length
      · exact hi
      · rw [List.getElem?_append_right (by simpa using hi), List.getElem?_replicate] at h2
        split at h2 <;> cases h2
    have ha : vs[i]? = some v := by
      unfold L2.start at h2
      rw [List.getElem?_append_left (by simpa using hi), List.getElem?_map] at h2
      cases e : vs[i]? with
      | none => rw [e] at h2; cases h2
      | some a => rw [e] at h2; cases h2; rfl
    obtain ⟨u, hu, rv⟩ := r.get ha
    have hp : ps[i]? = some y := by
      rw [← S.pre, List.getElem?_take_of_lt (by omega)]; exact h1
    have ndP : ps.Nodup := by rw [← S.pre]; exact S.nd.sublist (List.take_sublist _ _)
    exact ⟨u, rv, .inl ⟨S.par y (List.mem_of_getElem? hp), zip_rev ndP hp hu⟩⟩
  · obtain ⟨_, e⟩ := cl h
    rw [e]
    exact ⟨v, oc, kp _ _ (e0.bs _ _ hoc).1, hv⟩
  · obtain ⟨_, e⟩ := cl h
    rw [e]
    exact (e0.bs _ _ hoc).2
  · unfold L2.start
    rw [List.length_append, List.length_map, List.length_replicate, hl]
    show ps.length + (N.length - _) = N.length
    omega
/-- what the written part says of C's own __init__ at f, its cell at cc, its code at cd -/
structure SupF (P : Program) (K : PySem.W.Frag) (C f cc cd : Addr) (fd : FuncData) : Prop where
  oex : OexC K C
  fn : ∃ oc od osl, K.lookup f = some ⟨oc, od, .func fd, osl⟩
  self : ∃ ar, (fd.params.posonlyargs ++ fd.params.args).head? = some ar ∧ ar.arg = "self"
  code : ∃ (cl : Value) (cdd : Option Addr) (vs : Array Value) (ccs : Array (Option Value)) (file : Str) (tf : PySem.Tok), K.lookup cd = some ⟨cl, cdd, .fields vs, ccs⟩ ∧ vs[2]? = some (.str file tf) ∧ MainP P file
  cell : ∃ (cl : Value) (cld : Option Addr) (csl : Array (Option Value)), K.lookup cc = some ⟨cl, cld, .cell (some (.ref C)), csl⟩
  sub : PySem.W.mroIn K C (.ref C) = some true
  sup : PySem.W.ks_superIn K C C "__init__" = some (some (.builtin "ValueError.__init__"))
  subB : PySem.W.subIn K (.ref C) (.type "ValueError") = some true
  stat : PySem.W.nsIn K cStatics "thirdparty.any" = some none
section
variable {prog : Program} {w : World} {M : Model} {A : Around} {E : Value → Shared → Prop} {h : Heap} {g : Array GenState} {d : Drawn} {t : Nat} {os : OsState}
variable {nm q : Str} {C N : Addr} {bs bm : List Value} {hdct : Bool} {sn : List Str} {sub : List Value} {ab : Bool} {col : Option Bool} {dd : Option Addr} {k0 k1 k2 k3 k5 : Option Value}
/-- the bound __init__ of ValueError, called -/
theorem call_veinit {u e t0 : Addr} {rest : List Value} {Q : Value → Shared → Prop}
    (hC : h.get? C = some (excClassObj nm q C N bs bm hdct sn sub ab col dd k0 k1 k2 k3 k5 "ValueError.__new__")) (he : h.get? e = some (HandSPX.excO C t0)) (hu : h.get? u = some (PySem.W.kxs_mw "ValueError.__init__" e)) (hrest : rest.length ≤ sizeLine)
    (hq : ∀ h' t1, (∀ b o, b ≠ e → h.get? b = some o → h'.get? b = some o) → h'.get? e = some (HandSPX.excO C t1) → Q .none ⟨h', g, d, t, os⟩) :
    wpAny (model prog w) A (call (.ref u) rest) Q E ⟨h, g, d, t, os⟩ := by
  refine wpAny_call (codeAny_of_tree ?_)
  show wpAny _ A.in1 (callAny (.ref u) ⟨rest, []⟩) _ _ _
  unfold callAny
  refine wpAny_bind (wpAny_load hu ?_)
  have k1 : (Value.type "method-wrapper" == Value.type "method" || Value.type "method-wrapper" == Value.type "builtin_function_or_method" || Value.type "method-wrapper" == Value.type "method-wrapper") = true := by decide
  simp only [PySem.W.kxs_mw, k1, if_true]
  refine PySem.W.KFB.if_so (by decide) ?_
  refine wpAny_bind (PySem.W.check_bound_init F.excBase_ValueError.toExcCallFacts hC he rfl ?_)
  refine wpAny_bind (wpAny_pure (wpAny_pure ?_))
  refine ⟨plainId_quiet F.excBase_ValueError.init.plain _, codeAny_builtin F.excBase_ValueError.initEntry ?_⟩
  exact PySem.W.exc_init_tree (cls := .ref C) (t0 := t0) (dv := none) (c2 := .none) (c3 := .none) (b4 := .bool false) he hrest fun h' k e' _ => hq h' _ k e'
end
section
variable {CX : CXT} {P : Program} {w : World} {K : PySem.W.Frag} {mg : Str → Option Value} {base : Heap} {N : List Str} {name qual : Str} {params : Arguments} {body : List Stmt} {scope : Scope} {dV kV doc pm ct : Value} {an : Option Addr} {f cc cd C a : Addr} {A : Around} {outer : List PySem.Env} {s0 s : Shared} {H0 H : Hp} {E : XK} {σ : L2.St} {ps : List Str}
/-- super().__init__(e) -/
theorem super_ok {e : Expr} {ta : TA} {p0 p1 p2 p3 p4 : Pos} {q : Hp → Prop} {pl : Sem Bool} (T : SupF P K C f cc cd (PySem.W.ksFn name qual params body scope dV kV doc pm an (.ref cd) ct cc)) (S : ScopeS N ps scope) (hmg : mg ("super" : Str) = none)
    (hN : N[0]? = some ("self" : Str)) (hself : scope.names.lookup ("self" : Str) = some .local) (hσ : σ[0]? = some (some (.ref a)))
    (I : Inv (cxS CX P w K mg base N qual scope f (.ref cd) cc A outer s0 H0 E) [] σ H s) (ha : PA (cxS CX P w K mg base N qual scope f (.ref cd) cc A outer s0 H0 E) [e] ta) (hea : H a = some (exo a C none))
    (h : ta σ H fun vs H1 => vs.length ≤ 1000 ∧ H1 a = some (exo a C none) ∧ q H1)
    (hev : eval (.Call (.Attribute (.Call (.Name "super" p0) [] [] p1) "__init__" p2) [e] [] p3) (envS qual scope s0.heap.objs.size f (.ref cd) cc) = (do
      let ov ← attributeBase (.Call (.Name "super" p0) [] [] p1) "__init__" (envS qual scope s0.heap.objs.size f (.ref cd) cc) (eval (.Call (.Name "super" p0) [] [] p1) (envS qual scope s0.heap.objs.size f (.ref cd) cc))
      standAt p2.atName
      let (fn, first) ← holding [ov] (getMethod ov "__init__" pl)
      callWith p3 fn first (backTo p3 (starEach [e] (envS qual scope s0.heap.objs.size f (.ref cd) cc))) []) := by rfl)
    (hi : interactive (envS qual scope s0.heap.objs.size f (.ref cd) cc) = false := by rfl) (hsw : swapsWith (.Call (.Attribute (.Call (.Name "super" p0) [] [] p1) "__init__" p2) [e] [] p3) none p4.line (envS qual scope s0.heap.objs.size f (.ref cd) cc) = pure false := by rfl)
    (he : starEach [e] (envS qual scope s0.heap.objs.size f (.ref cd) cc) = (false, eval e (envS qual scope s0.heap.objs.size f (.ref cd) cc)) :: starEach [] (envS qual scope s0.heap.objs.size f (.ref cd) cc) := by rfl) :
    _root_.PySem.wpAt (model P w) (A.deeper (envS qual scope s0.heap.objs.size f (.ref cd) cc)) (.func body (envS qual scope s0.heap.objs.size f (.ref cd) cc)) (exec (.Expr (.Call (.Attribute (.Call (.Name "super" p0) [] [] p1) "__init__" p2) [e] [] p3) p4) (envS qual scope s0.heap.objs.size f (.ref cd) cc))
      (fun fl s' => fl = .next ∧ ∃ H', Inv (cxS CX P w K mg base N qual scope f (.ref cd) cc A outer s0 H0 E) [] σ H' s' ∧ q H') (cxS CX P w K mg base N qual scope f (.ref cd) cc A outer s0 H0 E).xe s := by
  obtain ⟨oc, od, osl, lkf⟩ := T.fn
  obtain ⟨ar, har, ear⟩ := T.self
  obtain ⟨ccl, cdd, vsC, ccs, file, tf, lkc, hvs, MP⟩ := T.code
  obtain ⟨kcl, kcd, ksl, lkcell⟩ := T.cell
  obtain ⟨nm, q', N', bs, bm, sn, sub, ab, col, dd, k0, k1, k2, k3, k5, hC, hbm⟩ := T.oex.cls
  obtain ⟨mb, hblt, hboot⟩ := I.mod.blt
  obtain ⟨t1, hoa⟩ := exo_at I.hok hea
  obtain ⟨m, hns, hlk⟩ := I.loc
  have hD := I.kIn _ _ hC
  have hcl : PySem.W.clsIn K C = some { name := nm, bases := bs, mro := .ref C :: bm, ns := N', qualname := q', hasDict := true, slotNames := sn, subclasses := sub, abstract := ab, collection := col, hasDel := false } := by unfold PySem.W.clsIn; rw [hC] <;> rfl
  refine PySem.ks_wpAt_Expr_any ?_ hi hsw
  refine PySem.ks_wpAt_MethodCall (pl := pl) ?_ hev
  refine PySem.ks_wpAt_super_base S.sup S.cls (by decide) rfl (I.kIn _ _ lkf) rfl har rfl (I.kIn _ _ lkc) rfl hvs MP.file MP.sup ?_
  refine PySem.W.ks_loadName_global S.kind S.sup (Calls.loadGlobal_builtin (by exact I.mod.glob.keeps I.bk) hmg (by exact hblt.keeps I.bk) ((hboot _ (by decide)).trans (show bootBuiltins "super" = some (.type "super") by first | rfl | kernel_rfl)) ⟨rfl, ?_⟩)
  refine wpAny_loadName_free S.kind S.cls (by rfl) ⟨_, I.kIn _ _ lkcell, rfl⟩ ?_
  rw [ear]
  obtain ⟨ua, ra, hm⟩ := hlk 0 "self" (.ref a) hN hσ (.inl hself)
  cases ra
  have hma : m "self" = some (.ref a) := by
    rcases hm with ⟨_, z⟩ | ⟨z, _⟩
    · exact z
    · have z' : scope.names.lookup ("self" : Str) = some .cell ∨ scope.names.lookup ("self" : Str) = some .free := z
      rw [hself] at z'
      rcases z' with z' | z' <;> cases z'
  refine wpAny_loadName_local S.kind hself hns hma ?_
  obtain ⟨hp, g, dr, tk, os⟩ := s
  refine PySem.ks_wpAny_isType_cls hD rfl ⟨rfl, ?_⟩
  refine PySem.ks_wpAny_call_super (x := a) (C := C) (D := C) hD rfl hoa rfl (fun c e => by cases e) (PySem.W.looks_mroIn I.kIn T.sub) fun h' eso k => ?_
  have I1 : Inv (cxS CX P w K mg base N qual scope f (.ref cd) cc A outer s0 H0 E) [] σ H ⟨h', g, dr, tk, os⟩ := I.kept (t' := tk) k
  have hD1 := k _ _ hD
  have hoa1 := k _ _ hoa
  have ne : a ≠ C := fun z => by
    rw [z] at hoa1
    have hD1' : h'.get? C = _ := hD1
    rw [hoa1] at hD1'
    have := congrArg Obj.data (Option.some.inj hD1')
    cases this
  have hal : PySem.W.alongIn K "__init__" (((Value.ref C :: bm).dropWhile (· != .ref C)).drop 1) = some (some (.builtin "ValueError.__init__")) := by
    have := T.sup
    unfold PySem.W.ks_superIn at this
    rw [hcl] at this
    exact this
  have IA : PySem.W.InstAt h' a { cls := .ref C, dict := none, data := .fields #[.ref t1, .none, .none, .none, .bool false, .none] } C none := ⟨hoa1, rfl, rfl, trivial⟩
  refine PySem.W.kxs_getMethod PySem.W.kxs_ValueError eso (PySem.W.looks_opaque I1.kIn T.stat) (l₀ := .ref C :: bm) (fun A Q E s k q => wpAny_bind ((PySem.W.looks_clsIn I1.kIn hcl) A _ E s k (wpAny_pure q))) rfl I1.kIn hal (IA.type.andThen (PySem.W.looks_subIn I1.kIn T.subB)) ne (by decide) ?_
  have I2 : Inv (cxS CX P w K mg base N qual scope f (.ref cd) cc A outer s0 H0 E) [] σ H ⟨h'.push (PySem.W.kxs_mw "ValueError.__init__" a), g, dr, tk + 1, os⟩ := I1.kept (t' := tk + 1) fun b o e => Heap.get?_push_of_some _ e
  have I3 := I2.pins_of (pins' := [(h'.objs.size, PySem.W.kxs_mw "ValueError.__init__" a)]) fun p hp => by
    rw [List.mem_singleton.mp hp]
    exact ⟨Heap.get?_push_size _ rfl, I1.hok.fresh (Nat.le_refl _), Nat.ne_of_gt I1.lt, I1.nofs (Nat.le_refl _), fun v z => by cases z⟩
  have hr : wpAny (model P w) (A.deeper (envS qual scope s0.heap.objs.size f (.ref cd) cc)) (spliced (backTo p3 (starEach [e] (envS qual scope s0.heap.objs.size f (.ref cd) cc)))) _ _ ⟨h'.push (PySem.W.kxs_mw "ValueError.__init__" a), g, dr, tk + 1, os⟩ := ha.run p3 _ _ σ H _ I3 h
  show wpAny _ _ (callWith p3 (.ref h'.objs.size) [] (backTo p3 (starEach [e] (envS qual scope s0.heap.objs.size f (.ref cd) cc))) []) _ _ _
  rw [he] at hr ⊢
  refine PySem.W.kxs_callWith (i := "ValueError.__init__") (x := a) (by rfl) (Calls.evalArgs_plain ?_)
  refine wpAny_mono hr (fun us s1 hh => ?_) fun _ _ z => z
  obtain ⟨vs, H1, I4, r1, hlen, hea1, hq⟩ := hh
  refine ⟨(I4.pin _ (List.mem_append_right _ (List.mem_singleton.mpr rfl))).1, ?_⟩
  have hu := (I4.pin _ (List.mem_append_right _ (List.mem_singleton.mpr rfl))).1
  obtain ⟨t2, ho2⟩ := exo_at I4.hok hea1
  obtain ⟨hp2, g2, dr2, tk2, os2⟩ := s1
  show wpAny _ _ (call (.ref h'.objs.size) us) _ _ _
  refine call_veinit (I4.kIn _ _ hC) ho2 hu ?_ fun h5 t5 k5 e5 => ?_
  · rw [← Paired.length r1, sizeLine_eq]
    omega
  · have J := I4.write (t' := tk2) (x := a) (e := a) (o := exo a C none) (by rw [hea1]; exact True.intro) (.inl rfl) k5 ⟨_, e5⟩ (exo_ok e5)
    have eu : upd H1 a (exo a C none) = H1 := by
      funext b
      by_cases hb : b = a
      · rw [hb, upd_same, hea1]
      · rw [upd_ne hb]
    rw [eu] at J
    exact ⟨rfl, H1, J.pins_of (fun p hp => by cases hp), hq⟩
/-- THE RULE for such an __init__ -/
theorem init_ok {e : Expr} {rest : List Stmt} {p0 p1 p2 p3 p4 : Pos} {k : Nat} {sp : Sp} {pl : Str → Addr → Addr → Sem Bool}
    (T : SupF P K C f cc cd (PySem.W.ksFn name qual params (.Expr (.Call (.Attribute (.Call (.Name "super" p0) [] [] p1) "__init__" p2) [e] [] p3) p4 :: rest) scope dV kV doc pm an (.ref cd) ct cc)) (hcd : PySem.W.codeIn K (.ref cd) qual = true) (S : ScopeS N ps scope) (hmg : mg ("super" : Str) = none)
    (hN : N[0]? = some ("self" : Str)) (hself : scope.names.lookup ("self" : Str) = some .local) (len : ∀ vs H Q E, sp vs H Q E → vs.length = ps.length)
    (hbody : ∀ (A : Around) (outer : List PySem.Env) (s : Shared) (H : Hp) (vs : List V) (Q : VK) (E : XK), Room k (A.deeper (envS qual scope s.heap.objs.size f (.ref cd) cc)) → sp vs H Q E → ∃ (a : Addr) (ta : TA) (t : TS), (L2.start N vs)[0]? = some (some (.ref a)) ∧ H a = some (exo a C none) ∧
      PA (cxS CX P w K mg base N qual scope f (.ref cd) cc A outer s H E) [e] ta ∧ PSs (cxS CX P w K mg base N qual scope f (.ref cd) cc A outer s H E) rest t ∧
      ta (L2.start N vs) H fun ws H1 => ws.length ≤ 1000 ∧ H1 a = some (exo a C none) ∧ t { nx := fun _ H' => Q .non H', rt := Q } (L2.start N vs) H1)
    (hev : ∀ L : Addr, eval (.Call (.Attribute (.Call (.Name "super" p0) [] [] p1) "__init__" p2) [e] [] p3) (envS qual scope L f (.ref cd) cc) = (do
      let ov ← attributeBase (.Call (.Name "super" p0) [] [] p1) "__init__" (envS qual scope L f (.ref cd) cc) (eval (.Call (.Name "super" p0) [] [] p1) (envS qual scope L f (.ref cd) cc))
      standAt p2.atName
      let (fn, first) ← holding [ov] (getMethod ov "__init__" (pl qual f L))
      callWith p3 fn first (backTo p3 (starEach [e] (envS qual scope L f (.ref cd) cc))) []))
    (hi : ∀ L : Addr, interactive (envS qual scope L f (.ref cd) cc) = false) (hsw : ∀ L : Addr, swapsWith (.Call (.Attribute (.Call (.Name "super" p0) [] [] p1) "__init__" p2) [e] [] p3) none p4.line (envS qual scope L f (.ref cd) cc) = pure false)
    (he : ∀ L : Addr, starEach [e] (envS qual scope L f (.ref cd) cc) = (false, eval e (envS qual scope L f (.ref cd) cc)) :: starEach [] (envS qual scope L f (.ref cd) cc)) :
    FnOk P w K mg base CX (k + 1) f (PySem.W.ksFn name qual params (.Expr (.Call (.Attribute (.Call (.Name "super" p0) [] [] p1) "__init__" p2) [e] [] p3) p4 :: rest) scope dV kV doc pm an (.ref cd) ct cc) ps sp := by
  obtain ⟨oc, od, osl, lk⟩ := T.fn
  obtain ⟨kcl, kcd, ksl, lkcell⟩ := T.cell
  refine ⟨len, fun A outer s H args us vs Q E hr e0 hb r hsp => ?_⟩
  have hl := len _ _ _ _ hsp
  have KX : K.In s.heap := e0.mod.kin.keeps fun b o e => (e0.bs b o e).1
  have lim : s.heap.NoLimit := e0.mod.nolimit.keeps fun b o e => (e0.bs b o e).1
  refine PySem.ks_codeAny_call_defAt hr.depth (KX _ _ lk) rfl lim (PySem.W.codeRec_of KX hcd) rfl hb S.nocell (fun ⟨n, v⟩ hy => S.par n (List.of_mem_zip hy).1) (fun h₀ hns kp => ?_) S.co S.gen S.kind
  obtain ⟨a, ta, t, h0, hea, pa, pr, q⟩ := hbody A outer s H vs Q E (hr.deeper _) hsp
  have I : Inv (cxS CX P w K mg base N qual scope f (.ref cd) cc A outer s H E) [] (L2.start N vs) H { s with heap := h₀, toks := s.toks + (ps.zip us).length } := inv_startS S hr.hd e0 hl r ⟨_, e0.mod.kin _ _ lkcell, _, rfl⟩ hns kp
  refine PySem.ks_wpAt_execs_cons ?_
  refine PySem.ks_wpAt_mono (super_ok (q := fun H1 => t { nx := fun _ H' => Q .non H', rt := Q } (L2.start N vs) H1) T S hmg hN hself h0 I pa hea q (hev _) (hi _) (hsw _) (he _)) (fun fl s' hh => ?_) fun _ _ z => z
  obtain ⟨rfl, H1, I1, q1⟩ := hh
  refine PySem.wpAt_of_wpAny (wpAny_mono (pr.run [] s' _ H1 _ I1 q1) (fun fl s2 hs => ?_) fun _ _ z => z)
  have fin : ∀ {σ' : L2.St} {H' : Hp} {v : V} {u : Value}, Inv (cxS CX P w K mg base N qual scope f (.ref cd) cc A outer s H E) [] σ' H' s2 → L2.RelV v u → Q v H' → CE outer P w H s Q u s2 :=
    fun {σ' H' v u} J rv q => ⟨v, H', J.os, J.bare, J.base, J.hok, rv, q⟩
  cases fl with
  | ret u =>
    obtain ⟨v, σ', H', J, rv, q⟩ := hs
    exact fin J rv q
  | next =>
    obtain ⟨σ', H', J, q⟩ := hs
    exact fin (v := V.non) (u := Value.none) J rfl q
  | brk =>
    obtain ⟨_, _, _, q⟩ := hs
    exact False.elim q
  | cont =>
    obtain ⟨_, _, _, q⟩ := hs
    exact False.elim q
end
end Bx

-- needs excS
-- imports HandS.ExcField HandS.FStr HandS.TryMany HandS.ExcOwn
/-! raise C(), raise C(e): C an own class over ValueError with a tag and, where it has an argument, one field -/
namespace Bx
open PySem PySem.Spec PyProof.Rows L2
/-- all that is known of the class x: C its place, fI its __init__ -/
structure ExcK (K : PySem.W.Frag) (C fI : Addr) : Prop where
  oex : OexC K C
  ini : PySem.W.findIn K (.ref C) "__init__" = some (some (.ref fI))
  fun_ : PySem.W.typeIn K (.ref fI) = some (.type "function")
  xf : XfC K C
  tag : PySem.W.findIn K (.ref C) "tag" = some none
/-- __init__ without an argument -/
def spI0 (C : Addr) (nm : Str) : Sp := fun vs H Q _ => ∃ a, vs = [.ref a] ∧ H a = some (exo a C none) ∧ ∀ dx, H dx = none → dx ≠ a → Q .non (upd (upd H dx (exd dx [("tag", .str nm)])) a (exo a C (some dx)))
/-- __init__ with one -/
def spI1 (C : Addr) (nm fld : Str) (Ok : V → Hp → Prop) : Sp := fun vs H Q _ => ∃ a v, vs = [.ref a, v] ∧ H a = some (exo a C none) ∧ Ok v H ∧ ∀ dx, H dx = none → dx ≠ a → Q .non (upd (upd (upd H dx (exd dx [("tag", .str nm)])) a (exo a C (some dx))) dx (exd dx [(fld, v), ("tag", .str nm)]))
section
variable {X : Cx} {C fI : Addr} {fd : FuncData} {ps : List Str} {sp : Sp} {k : Nat} {CX : CXT} {pins : List (Addr × Obj)} {σ : L2.St} {H : Hp} {Q : XK} {s : Shared} {us : List Value} {vs : List V}
/-- the class called -/
theorem make_exc (T : ExcK X.K C fI) (F1 : FnOk X.prog X.w X.K X.mg X.base CX k fI fd ps sp) (hr : Room (k + 1) X.A) (hb : Binds X.K fd ps []) (hx : Passes CX X (fun _ _ _ => False)) (I : Inv X pins σ H s) (r : Vals vs us) (hz : vs.length ≤ 1000)
    (hq : ∀ a, H a = none → sp (.ref a :: vs) (upd H a (exo a C none)) (fun v H2 => v = .non ∧ ∃ (d : Addr) (fs : List (Str × V)), H2 a = some (exo a C (some d)) ∧ H2 d = some (exd d fs) ∧ H d = none ∧ Q (.ref C) (some d) (upd (del H2 a) d (.xd fs))) (fun _ _ _ => False)) :
    wpAny (model X.prog X.w) X.A (call (.ref C) us) (MkP X pins σ Q) X.xe s := by
  obtain ⟨nm, q, N, bs, bm, sn, sub, ab, col, dd, k0, k1, k2, k3, k5, hC, hbm⟩ := T.oex.cls
  obtain ⟨hp, g, dr, tk, os⟩ := s
  have le : hp.objs.size ≤ hp.objs.size + 1 := Nat.le_succ _
  have kept : ∀ b o, hp.get? b = some o → ((hp.push (PySem.W.kdv_tup us)).push (PySem.HandSPX.excO C hp.objs.size)).get? b = some o := fun b o e => Heap.get?_push_of_some _ (Heap.get?_push_of_some _ e)
  have at1 : ((hp.push (PySem.W.kdv_tup us)).push (PySem.HandSPX.excO C hp.objs.size)).get? (hp.objs.size + 1) = some (PySem.HandSPX.excO C hp.objs.size) := by heap_get
  have J : Inv X pins σ (upd H (hp.objs.size + 1) (exo (hp.objs.size + 1) C none)) ⟨(hp.push (PySem.W.kdv_tup us)).push (PySem.HandSPX.excO C hp.objs.size), g, dr, tk, os⟩ := I.laid (t' := tk) (o := exo (hp.objs.size + 1) C none) kept le (exo_ok at1)
  have q0 := hq (hp.objs.size + 1) (I.hok.fresh le)
  have r2 : Vals (V.ref (hp.objs.size + 1) :: vs) (Value.ref (hp.objs.size + 1) :: us) := .cons rfl r
  have hl : (Value.ref (hp.objs.size + 1) :: us ++ []).length = ps.length := by
    rw [List.append_nil, ← r2.length]
    exact F1.len _ _ _ _ q0
  have hus : us.length ≤ sizeLine := by rw [← Paired.length r, sizeLine_eq]; omega
  have hbt := hb ⟨(hp.push (PySem.W.kdv_tup us)).push (PySem.HandSPX.excO C hp.objs.size), g, dr, tk, os⟩ (Value.ref (hp.objs.size + 1) :: us) J.kIn hl
  rw [List.append_nil] at hbt
  refine wpAny_call (PySem.HandSPX.call_own F.excBase_ValueError (fun Y => PySem.HandSPX.refsVE_contains Y bm hbm) (I.kIn _ _ hC) (PySem.W.looks_findIn I.kIn T.ini) (fun self => PySem.W.bind_fn I.kIn self T.fun_) hus ?_)
  refine codeAny_mono (F1.run _ X.stack _ _ ⟨Value.ref (hp.objs.size + 1) :: us, []⟩ (Value.ref (hp.objs.size + 1) :: us) _ _ (fun _ _ _ => False) (hr.make C us []) (J.env0.make C us []) hbt r2 q0) fun res s' hres => ?_
  cases res with
  | error er => exact hx pins σ _ _ er s' J hres
  | ok fl =>
    cases fl with
    | next => exact False.elim hres
    | brk => exact False.elim hres
    | cont => exact False.elim hres
    | ret u =>
      obtain ⟨v, H2, os2, bare2, un2, hok2, rv, ev, d, fs, ea, ed, hd1, q2⟩ := hres
      subst ev
      obtain ⟨h2, g2, d2, t2, os'⟩ := s'
      exact ⟨rv, mk_end (raises_own T.oex.exC T.oex.tyC) I le kept un2 hok2 os2 bare2 ea ed hd1 q2⟩
end
theorem del_two {H : Hp} {a d : Addr} {o1 o2 o3 o4 : HO} (ha : H a = none) (hne : d ≠ a) : upd (del (upd (upd (upd (upd H a o1) d o2) a o3) d o4) a) d o4 = upd (upd H d o4) d o4 := by
  funext b
  by_cases hb : b = d
  · rw [hb, upd_same, upd_same]
  · rw [upd_ne hb, upd_ne hb]
    by_cases hba : b = a
    · rw [hba, del_same, upd_ne hne.symm, ha]
    · rw [del_ne hba, upd_ne hb, upd_ne hba, upd_ne hb, upd_ne hba, upd_ne hb]
theorem upd_upd {H : Hp} {d : Addr} {o o' : HO} : upd (upd H d o) d o' = upd H d o' := by
  funext b
  by_cases hb : b = d
  · rw [hb, upd_same, upd_same]
  · rw [upd_ne hb, upd_ne hb, upd_ne hb]
/-- the end of the first form, of the second -/
theorem fin0 {H : Hp} {a d C : Addr} {nm : Str} (ha : H a = none) (hne : d ≠ a) : upd (del (upd (upd (upd H a (exo a C none)) d (exd d [("tag", .str nm)])) a (exo a C (some d))) a) d (.xd [("tag", .str nm)]) = upd H d (.xd [("tag", .str nm)]) := by
  funext b
  by_cases hb : b = d
  · rw [hb, upd_same, upd_same]
  · rw [upd_ne hb, upd_ne hb]
    by_cases hba : b = a
    · rw [hba, del_same, ha]
    · rw [del_ne hba, upd_ne hba, upd_ne hb, upd_ne hba]
theorem fin1 {H : Hp} {a d C : Addr} {nm fld : Str} {v : V} (ha : H a = none) (hne : d ≠ a) : upd (del (upd (upd (upd (upd H a (exo a C none)) d (exd d [("tag", .str nm)])) a (exo a C (some d))) d (exd d [(fld, v), ("tag", .str nm)])) a) d (.xd [(fld, v), ("tag", .str nm)]) = upd H d (.xd [(fld, v), ("tag", .str nm)]) := by
  funext b
  by_cases hb : b = d
  · rw [hb, upd_same, upd_same]
  · rw [upd_ne hb, upd_ne hb]
    by_cases hba : b = a
    · rw [hba, del_same, ha]
    · rw [del_ne hba, upd_ne hb, upd_ne hba, upd_ne hb, upd_ne hba]
/-- the def at fI keeps the promise of an __init__ -/
def GoodI (P : Program) (w : World) (K : PySem.W.Frag) (mg : Str → Option Value) (base : Heap) (CX : CXT) (k : Nat) (C : Addr) (x : Str) (ps : List Str) (sp : Sp) : Prop :=
  ∃ fI fd, ExcK K C fI ∧ FnOk P w K mg base CX k fI fd ps sp ∧ Binds K fd ps [] ∧ mg x = some (.ref C)
section
variable {X : Cx} {C : Addr} {k : Nat} {CX : CXT} {x nm fld : Str} {p pos : Pos} {e : Expr} {ta : TA} {Ok : V → Hp → Prop} {ps : List Str}
theorem pmk_0 (G : GoodI X.prog X.w X.K X.mg X.base CX k C x ps (spI0 C nm)) (hr : Room (k + 1) X.A) (hg : Gl X x) (hx : Passes CX X (fun _ _ _ => False)) (hdb : (x == ("__debug__" : Str)) = false := by decide) :
    PMk X (.Call (.Name x p) [] [] pos) (fun _ H Q => ∀ d, H d = none → Q (.ref C) (some d) (upd H d (.xd [("tag", .str nm)]))) := by
  obtain ⟨fI, fd, T, F1, hb, hm⟩ := G
  intro pins s σ H Q I h
  refine wpAny_Call_Name_kw (ld_glob I hg hm ?_ hdb)
  refine PySem.W.callWith_K0 I.kIn T.oex.kC ?_
  refine make_exc (us := []) (vs := []) T F1 hr hb hx I .nil (Nat.zero_le _) fun a ha => ⟨a, rfl, upd_same, fun d hd hne => ⟨rfl, d, _, upd_same, by rw [upd_ne hne, upd_same], ?_, ?_⟩⟩
  · rw [upd_ne hne] at hd
    exact hd
  · rw [fin0 ha hne]
    rw [upd_ne hne] at hd
    exact h d hd
theorem pmk_1 (G : GoodI X.prog X.w X.K X.mg X.base CX k C x ps (spI1 C nm fld Ok)) (hr : Room (k + 1) X.A) (hg : Gl X x) (hx : Passes CX X (fun _ _ _ => False)) (ha : PA X [e] ta) (hdb : (x == ("__debug__" : Str)) = false := by decide)
    (hst : starEach [e] X.env = (false, eval e X.env) :: starEach [] X.env := by rfl) (hpl : (backTo pos (starEach [] X.env)).any (·.1) = false := by rfl) :
    PMk X (.Call (.Name x p) [e] [] pos) (fun σ H Q => ta σ H fun vs H1 => ∃ v, vs = [v] ∧ (∀ a, H1 a = none → Ok v (upd H1 a (exo a C none))) ∧ ∀ d, H1 d = none → Q (.ref C) (some d) (upd H1 d (.xd [(fld, v), ("tag", .str nm)]))) := by
  obtain ⟨fI, fd, T, F1, hb, hm⟩ := G
  intro pins s σ H Q I h
  refine wpAny_Call_Name_kw (ld_glob I hg hm ?_ hdb)
  refine PySem.W.callWith_K (h₀ := X.base) I.ok.mod.kin T.oex.kC (thn (ha.run pos pins s σ H _ I h) fun us s1 hh => ?_) hst hpl
  obtain ⟨vs, H1, I1, r1, v, rfl, ok, q⟩ := hh
  refine ⟨I1.kIn, ?_⟩
  refine make_exc T F1 hr hb hx I1 r1 (by show 1 ≤ 1000; decide) fun a ha => ⟨a, v, rfl, upd_same, ok a ha, fun d hd hne => ⟨rfl, d, _, by rw [upd_ne hne.symm, upd_same], upd_same, ?_, ?_⟩⟩
  · rw [upd_ne hne] at hd
    exact hd
  · rw [fin1 ha hne]
    rw [upd_ne hne] at hd
    exact q d hd
end
end Bx

-- needs lists
-- imports HandS.ClsMeth HandS.HeadNt
/-! own classes: made by name or through a local name, classmethods without arguments, `in` by an own __contains__; a head that also reads defs at any address -/
namespace Bx
open PySem PySem.Spec PyProof.Rows L2
section
variable {X : Cx} {CX : CXT} {k i : Nat} {C f pa g : Addr} {mc : Value} {ps : List Str} {sp : Sp} {E : XK} {x m : Str} {p pos apos : Pos} {o e : Expr} {es : List Expr} {t : TA} {ta : TE}
theorem pe_mkG (M : Mk X.K C f) (G : GoodM X.prog X.w X.K X.mg X.base CX k f ps sp) (hr : Room (k + 1) X.A) (hg : Gl X x) (hm : X.mg x = some (.ref C)) (hx : Passes CX X E)
    (ha : PA X (e :: es) t) (hdb : (x == ("__debug__" : Str)) = false := by decide) (he : starEach (e :: es) X.env = (false, eval e X.env) :: starEach es X.env := by rfl) (hpl : (backTo pos (starEach es X.env)).any (·.1) = false := by rfl) :
    PE X (.Call (.Name x p) (e :: es) [] pos) (tMake C sp [] E t) := by
  obtain ⟨fd, F, b⟩ := G
  exact pe_make M F hr hg hm b .nil hx ha hdb he hpl
/-- a local name that holds a class, called -/
def tMakeV (i : Nat) (C : Addr) (sp : Sp) (E : XK) (t : TA) : TE := fun σ H Q => σ[i]? = some (some (.ref C)) ∧ t σ H fun vs H1 => ∀ x dx, H1 x = none → H1 dx = none → dx ≠ x →
  sp (.ref x :: (vs ++ [])) (upd (upd H1 dx (.own x)) x (.ins C dx [])) (fun v H2 => v = .non ∧ Q (.ref x) H2) E
theorem pe_mkV (M : Mk X.K C f) (G : GoodM X.prog X.w X.K X.mg X.base CX k f ps sp) (hr : Room (k + 1) X.A) (hN : X.N[i]? = some x) (hv : Vis X.env.scope x) (hx : Passes CX X E)
    (ha : PA X (e :: es) t) (hdb : (x == ("__debug__" : Str)) = false := by decide) (hcd : (x == ("__classdict__" : Str)) = false := by decide) (he : starEach (e :: es) X.env = (false, eval e X.env) :: starEach es X.env := by rfl) (hpl : (backTo pos (starEach es X.env)).any (·.1) = false := by rfl) :
    PE X (.Call (.Name x p) (e :: es) [] pos) (tMakeV i C sp E t) := by
  obtain ⟨fd, F, b⟩ := G
  refine ⟨fun pins s σ H Q I h => ?_⟩
  obtain ⟨hs, ht⟩ := h
  refine wpAny_Call_Name_kw (thn ((pe_var (pos := p) hN hv hdb hcd).run pins s σ H (fun v H1 => v = .ref C ∧ H1 = H) I ⟨.ref C, hs, rfl, rfl⟩) fun u s1 ⟨v, H1, I1, r1, q1⟩ => ?_)
  obtain ⟨rfl, rfl⟩ := q1
  cases r1
  refine PySem.W.callWith_K (h₀ := X.base) I.ok.mod.kin M.kp (thn (ha.run pos pins s1 σ _ _ I1 ht) fun us s2 ⟨vs, H2, I2, r, q⟩ => ⟨I2.kIn, ?_⟩) he hpl
  exact run_make M F hr b .nil hx I2 r q
/-- C.m() of a classmethod -/
theorem pe_cmeth0 {pl : Sem Bool} (he : PE X o ta) (r : ClX.CRead X.K C mc) (c : ClX.CMet X.K C mc m pa g) (F : FnR X.prog X.w X.K X.mg X.base CX k g sp) (hr : Room k X.A) (hx : Passes CX X E)
    (ht : eval (.Call (.Attribute o m apos) [] [] pos) X.env = (do
      let ov ← eval o X.env
      standAt apos.atName
      let (f, first) ← holding [ov] (getMethod ov m pl)
      callWith pos f first (backTo pos (starEach [] X.env)) (backToKw pos (keywordEach [] X.env))) := by rfl) :
    PE X (.Call (.Attribute o m apos) [] [] pos) (ClX.tCMeth C sp E ta tNil) := by
  refine ⟨fun pins s σ H Q I h => ?_⟩
  refine PySem.W.methodCall_KW (pl := pl) (thn (he.run pins s σ H _ I h) fun u s1 ⟨x, H1, I1, rx, ex, q⟩ => ?_) ht
  subst ex
  obtain rfl : u = Value.ref C := rx
  refine ClX.getmethcm_ok I1 r c fun s2 I2 => ?_
  exact PySem.W.callWith_M0 (K := X.K) (first := []) ⟨ClX.pin_at I2, I2.kIn⟩ c.fi (ClX.run_cm (us := []) F hr hx I2 .nil q)
/-- x in o, o an instance of the class at C with an own __contains__ -/
def rInC (C : Addr) (sp : Sp) (E : XK) : R2 := fun x y H Q => ∃ a dx fs, y = .ref a ∧ H a = some (.ins C dx fs) ∧ sp [.ref a, x] H (fun v H' => ∃ b : Bool, v = .bl b ∧ Q (.bl b) H') E
theorem op_inC (hs : Meth X.K C "__contains__" f) (F : FnR X.prog X.w X.K X.mg X.base CX k f sp) (hr : Room k X.A) (hx : Passes CX X E) : OpR X (compareOp .In) (rInC C sp E) := by
  intro pins s σ H x y v u Q I rx ry h
  obtain ⟨a, dx, fs, rfl, ha, hsp⟩ := h
  obtain rfl : u = Value.ref a := ry
  obtain ⟨mA, O, _, _, _, _⟩ := ins_get I.hok ha
  obtain ⟨od, J, _⟩ := O.look
  obtain ⟨m, hF⟩ := I.fr
  refine PySem.W.in_K hF I.ok.mod.kin J hs.at_ (by exact hs.fn) ?_
  refine thn (wpAny_call (run_fnR (us := [.ref a, v]) (vs := [.ref a, x]) F hr hx I (.cons rfl (.cons rx .nil)) hsp)) fun r s1 ⟨z, H1, I1, rz, b, ez, q⟩ => ?_
  subst ez
  obtain rfl : r = Value.bool b := rz
  exact wpAny_truthy_bool ⟨.bl b, H1, I1, rfl, q⟩
end
/-- what the head must tell of a class's reading -/
def creadB (K : PySem.W.Frag) (C : Addr) : Bool := PySem.W.readsIn K C (.type "type") && He.eqO (PySem.W.specialIn K (.ref C) "__getattribute__") (some (some (.builtin "type.__getattribute__")))
theorem creadB_ok {K : PySem.W.Frag} {C : Addr} (h : creadB K C = true) : ClX.CRead K C (.type "type") := by
  obtain ⟨h1, h2⟩ := He.ba h
  exact ⟨h1, He.eqO_ok h2⟩
def cmetB (K : PySem.W.Frag) (C : Addr) (m : Str) : Bool := He5.wrapB K C "classmethod" "classmethod.__get__" m && PySem.W.fnIn K (He5.wf K C "classmethod" m)
theorem cmetB_ok {K : PySem.W.Frag} {C : Addr} {m : Str} (h : cmetB K C m = true) : ClX.CMet K C (.type "type") m (He.ma K C m) (He5.wf K C "classmethod" m) := by
  obtain ⟨h1, h2⟩ := He.ba h
  exact He5.cmet_of h1 h2
/-- names, defs, defs at any address, more -/
abbrev AlZ : Type := He.AlD × He.AlD × Bool
def obsZ (n : Nat) (fa : List He.Fa) (fn : List He.DefD) (fna : List He5.DefA) (ex : PySem.W.Frag → Bool) (g : Addr → Option Obj) : AlZ :=
  (He.obsD fa fn (He.frG g (He5.asA g n)), He5.obsA [] fna (He.frG g (He5.asA g n)), ex (He.frG g (He5.asA g n)))
def valZ (fn : List He.DefD) (fna : List He5.DefA) : AlZ := (He.valD fn, He5.valA fna, true)
structure SaysZ (fa : List He.Fa) (fn : List He.DefD) (fna : List He5.DefA) (ex : PySem.W.Frag → Bool) (K : PySem.W.Frag) : Prop where
  d : He.SaysD fa fn K
  a : He5.SaysA [] fna K
  more : ex K = true
def hookZ (n : Nat) (fa : List He.Fa) (fn : List He.DefD) (fna : List He5.DefA) (ex : PySem.W.Frag → Bool) : PySem.W.Hook where
  α := AlZ
  obs := fun s => obsZ n fa fn fna ex s.heap.get?
  val := fun _ => valZ fn fna
  says := fun _ h => ∃ K : PySem.W.Frag, K.In h ∧ SaysZ fa fn fna ex K
  of := fun _ _ e => ⟨_, He.frG_in, ⟨congrArg (fun z : AlZ => z.1) e, congrArg (fun z : AlZ => z.2.1) e, congrArg (fun z : AlZ => z.2.2) e⟩⟩
  keeps := fun _ _ _ ⟨K, hK, c⟩ k => ⟨K, PySem.W.Frag.In.keeps hK k, c⟩
theorem obsZ_eq {n : Nat} {fa : List He.Fa} {fn : List He.DefD} {fna : List He5.DefA} {ex : PySem.W.Frag → Bool} {g : Addr → Option Obj} {s : Shared} (h : ∀ a, g a = s.heap.get? a) : obsZ n fa fn fna ex g = (hookZ n fa fn fna ex).obs s := by
  have e : g = s.heap.get? := funext h
  rw [e] <;> rfl
end Bx

-- needs excM clsrules
-- imports HandS.HeadNt HandS.HeadHook4 HandS.HeadWalk
/-! the head's facts: names, defs, defs at any address, __init__s that say super(), one more Bool, the empty tables of code objects -/
namespace Bx
open PySem PySem.Spec PyProof.Rows L2
def fnS (K : PySem.W.Frag) (a : Addr) : He.FnW := match K.lookup a with
  | some ⟨_, _, .func fd, _⟩ => some (fd.name, fd.qualname, fd.params, fd.body, fd.scope, fd.globals, fd.closure.map fun q => (q.1, 0), fd.builtins)
  | _ => none
/-- an own exception's __init__ that says super() -/
structure DefS where
  cls : Str
  qual : Str
  params : Arguments
  body : List Stmt
  scope : Scope
  file : Str
def DefS.at_ (K : PySem.W.Frag) (d : DefS) : Addr := He.ma K (He.ga K d.cls) "__init__"
def DefS.val (d : DefS) : He.FnW := some ("__init__", d.qual, d.params, .stmts d.body, d.scope, mainGlobals, [("__class__", 0)], builtinsNs)
def fileB (K : PySem.W.Frag) (cd : Value) (file : Str) : Bool := match cd with
  | .ref c => (match K.lookup c with
      | some ⟨_, _, .fields vs, _⟩ => (match vs.toList with | _ :: _ :: .str y _ :: _ => y == file | _ => false)
      | _ => false)
  | _ => false
def cellB (K : PySem.W.Frag) (cl : List (Str × Addr)) (C : Addr) : Bool := match cl with
  | [(_, cc)] => (match K.lookup cc with
      | some ⟨_, _, .cell (some (.ref D)), _⟩ => decide (D = C)
      | _ => false)
  | _ => false
def oexB (K : PySem.W.Frag) (C : Addr) : Bool := match K.lookup C with
  | some ⟨.type t, _, .cls cd, sl⟩ => decide (t = "type") && (match cd.mro, sl.toList with
    | .ref C' :: bm, [_, _, _, _, some (.builtin n), _] => decide (C' = C) && (decide (n = "ValueError.__new__") && (!cd.hasDel && (cd.hasDict && PySem.HandSPX.refsVE bm)))
    | _, _ => false)
  | _ => false
theorem oexB_ok {K : PySem.W.Frag} {C : Addr} (h : oexB K C = true) : ∃ nm q N bs bm sn sub ab col dd k0 k1 k2 k3 k5, K.lookup C = some (excClassObj nm q C N bs bm true sn sub ab col dd k0 k1 k2 k3 k5 "ValueError.__new__") ∧ PySem.HandSPX.refsVE bm = true := by
  unfold oexB at h
  split at h
  · rename_i t dd cd sl ho
    obtain ⟨ht, hh⟩ := He.ba h
    clear h
    obtain rfl := of_decide_eq_true ht
    split at hh
    · rename_i C' bm k0 k1 k2 k3 n k5 hm hs
      obtain ⟨h1, h⟩ := He.ba hh
      obtain ⟨h2, h⟩ := He.ba h
      obtain ⟨h3, h⟩ := He.ba h
      obtain ⟨h4, h5⟩ := He.ba h
      obtain rfl := of_decide_eq_true h1
      obtain rfl := of_decide_eq_true h2
      obtain ⟨nm, bs, mro, ns, qn, hd, sn, sb, ab, col, del⟩ := cd
      dsimp only at hm h3 h4
      subst hm h4
      have h3' : del = false := by cases del <;> first | rfl | cases h3
      subst h3'
      have hsl : sl = #[k0, k1, k2, k3, some (.builtin "ValueError.__new__"), k5] := by
        obtain ⟨l⟩ := sl
        simp only at hs
        rw [hs]
      subst hsl
      exact ⟨nm, qn, ns, bs, bm, sn, sb, ab, col, dd, k0, k1, k2, k3, k5, ho, h5⟩
    · cases hh
  · cases h
def DefS.ok (K : PySem.W.Frag) (d : DefS) : Bool := (match K.lookup (d.at_ K) with
  | some ⟨_, _, .func fd, _⟩ => PySem.W.codeIn K fd.code d.qual && (fileB K fd.code d.file && (cellB K fd.closure (He.ga K d.cls) && (decide (fd.defaults = .none) && decide (fd.kwdefaults = .none))))
  | _ => false) && (oexB K (He.ga K d.cls) && (He.eqO (PySem.W.findIn K (.ref (He.ga K d.cls)) "__setattr__") (some (some (.builtin "object.__setattr__"))) && (decide (PySem.W.subIn K (.ref (He.ga K d.cls)) (.type "BaseException") = some true) && (decide (PySem.W.typeIn K (.ref (He.ga K d.cls)) = some (.type "type")) && (PySem.W.keepIn K (.ref (He.ga K d.cls)) &&
    (He.eqO (PySem.W.findIn K (.ref (He.ga K d.cls)) "__init__") (some (some (.ref (d.at_ K)))) && (decide (PySem.W.typeIn K (.ref (d.at_ K)) = some (.type "function")) && (xfB K (He.ga K d.cls) && (He.eqO (PySem.W.findIn K (.ref (He.ga K d.cls)) "tag") (some none) &&
    (decide (PySem.W.mroIn K (He.ga K d.cls) (.ref (He.ga K d.cls)) = some true) && (He.eqO (PySem.W.ks_superIn K (He.ga K d.cls) (He.ga K d.cls) "__init__") (some (some (.builtin "ValueError.__init__"))) && (decide (PySem.W.subIn K (.ref (He.ga K d.cls)) (.type "ValueError") = some true) && He.eqO (PySem.W.nsIn K cStatics "thirdparty.any") (some none)))))))))))))
theorem fileB_ok {K : PySem.W.Frag} {cd : Value} {file : Str} (h : fileB K cd file = true) : ∃ (c : Addr) (cl : Value) (cdd : Option Addr) (vs : Array Value) (ccs : Array (Option Value)) (tf : PySem.Tok), cd = .ref c ∧ K.lookup c = some ⟨cl, cdd, .fields vs, ccs⟩ ∧ vs[2]? = some (.str file tf) := by
  unfold fileB at h
  split at h
  · rename_i c
    split at h
    · rename_i cl cdd vs ccs ho
      split at h
      · rename_i a b y t r hv
        obtain rfl : y = file := by simpa using h
        refine ⟨c, cl, cdd, vs, ccs, t, rfl, ho, ?_⟩
        have e : vs.toList[2]? = some (.str y t) := by rw [hv]; rfl
        simpa using e
      · cases h
    · cases h
  · cases h
theorem cellB_ok {K : PySem.W.Frag} {cl : List (Str × Addr)} {C : Addr} (h : cellB K cl C = true) : ∃ (x : Str) (cc : Addr) (kc : Value) (kd : Option Addr) (ks : Array (Option Value)), cl = [(x, cc)] ∧ K.lookup cc = some ⟨kc, kd, .cell (some (.ref C)), ks⟩ := by
  unfold cellB at h
  split at h
  · rename_i x cc
    split at h
    · rename_i kc kd D ks ho
      obtain rfl := of_decide_eq_true h
      exact ⟨x, cc, kc, kd, ks, rfl, ho⟩
    · cases h
  · cases h
/-- what the head tells of such a class -/
theorem DefS.get {P : Program} {K : PySem.W.Frag} {d : DefS} (MP : MainP P d.file) (hs : ∃ ar, (d.params.posonlyargs ++ d.params.args).head? = some ar ∧ ar.arg = "self") (e : fnS K (d.at_ K) = d.val) (c : d.ok K = true) :
    ∃ (kV doc pm ct : Value) (an : Option Addr) (cd cc : Addr), SupF P K (He.ga K d.cls) (d.at_ K) cc cd (PySem.W.ksFn "__init__" d.qual d.params d.body d.scope .none .none doc pm an (.ref cd) ct cc) ∧ PySem.W.codeIn K (.ref cd) d.qual = true ∧ ExcK K (He.ga K d.cls) (d.at_ K) := by
  unfold DefS.ok at c
  obtain ⟨c0, c⟩ := He.ba c
  obtain ⟨c1, c⟩ := He.ba c
  obtain ⟨c2, c⟩ := He.ba c
  obtain ⟨c3, c⟩ := He.ba c
  obtain ⟨c4, c⟩ := He.ba c
  obtain ⟨c5, c⟩ := He.ba c
  obtain ⟨c6, c⟩ := He.ba c
  obtain ⟨c7, c⟩ := He.ba c
  obtain ⟨c8, c⟩ := He.ba c
  obtain ⟨c9, c⟩ := He.ba c
  obtain ⟨c10, c⟩ := He.ba c
  obtain ⟨c11, c⟩ := He.ba c
  obtain ⟨c12, c13⟩ := He.ba c
  have OX : OexC K (He.ga K d.cls) := ⟨oexB_ok c1, He.eqO_ok c2, of_decide_eq_true c3, of_decide_eq_true c4, c5⟩
  have EX : ExcK K (He.ga K d.cls) (d.at_ K) := ⟨OX, He.eqO_ok c6, of_decide_eq_true c7, xfB_ok c8, He.eqO_ok c9⟩
  unfold fnS at e
  cases q : K.lookup (d.at_ K) with
  | none =>
    rw [q] at c0
    cases c0
  | some o =>
    obtain ⟨oc, od, dt, osl⟩ := o
    rw [q] at c0 e
    cases dt with
    | func fd =>
      obtain ⟨n1, n2, n3, n4, n5, n6, n7, n8, n9, n10, n11, n12, n13, n14, n15⟩ := fd
      have e2 : (some (n1, n2, n3, n4, n5, n6, n7.map (fun q => (q.1, 0)), n15) : He.FnW) = some (("__init__" : Str), d.qual, d.params, FuncBody.stmts d.body, d.scope, mainGlobals, [(("__class__" : Str), 0)], builtinsNs) := e
      simp only [Option.some.injEq, Prod.mk.injEq] at e2
      obtain ⟨h1, h2, h3, h4, h5, h6, h7, h8⟩ := e2
      subst h1 h2 h3 h4 h5 h6 h8
      have c3' : (PySem.W.codeIn K n13 d.qual && (fileB K n13 d.file && (cellB K n7 (He.ga K d.cls) && (decide (n8 = .none) && decide (n9 = .none))))) = true := c0
      obtain ⟨k1, k⟩ := He.ba c3'
      obtain ⟨k2, k⟩ := He.ba k
      obtain ⟨k3, k⟩ := He.ba k
      obtain ⟨k4, k5⟩ := He.ba k
      obtain rfl := of_decide_eq_true k4
      obtain rfl := of_decide_eq_true k5
      obtain ⟨cd, ccl, cdd, vs, ccs, tf, rfl, lc, hv⟩ := fileB_ok k2
      obtain ⟨x, cc, kc, kd, ks, rfl, lcc⟩ := cellB_ok k3
      have hx : x = "__class__" := by
        have := List.cons.inj h7
        exact (Prod.mk.inj this.1).1
      subst hx
      exact ⟨.none, n10, n11, n14, n12, cd, cc, ⟨OX, ⟨oc, od, osl, q⟩, hs, ⟨ccl, cdd, vs, ccs, d.file, tf, lc, hv, MP⟩, ⟨kc, kd, ks, lcc⟩, of_decide_eq_true c10, He.eqO_ok c11, of_decide_eq_true c12, He.eqO_ok c13⟩, k1, EX⟩
    | _ => cases c0
def cellsOf (g : Addr → Option Obj) (as : List Addr) : List Addr := as.flatMap fun a => match g a with
  | some ⟨_, _, .func fd, _⟩ => fd.closure.map (·.2)
  | _ => []
def withCells (g : Addr → Option Obj) (as : List Addr) : List Addr := as ++ cellsOf g as
def asW (g : Addr → Option Obj) (n : Nat) : List Addr := withCells g (He5.asA g n)
abbrev AlW : Type := He.AlD × He.AlD × He.AlD × Bool
def obsWK (fa : List He.Fa) (fn : List He.DefD) (fna : List He5.DefA) (fns : List DefS) (tf : List He.Defn) (ex : PySem.W.Frag → Bool) (g : Addr → Option Obj) (K : PySem.W.Frag) : AlW :=
  (He.obsD fa fn K, He5.obsA [] fna K, (fns.all fun d => d.ok K, fns.map fun d => fnS K (d.at_ K)), ex K && He.tabsB g tf K)
def obsW (n : Nat) (fa : List He.Fa) (fn : List He.DefD) (fna : List He5.DefA) (fns : List DefS) (tf : List He.Defn) (ex : PySem.W.Frag → Bool) (g : Addr → Option Obj) : AlW := obsWK fa fn fna fns tf ex g (He.frT g (asW g n))
def valW (fn : List He.DefD) (fna : List He5.DefA) (fns : List DefS) : AlW := (He.valD fn, He5.valA fna, (true, fns.map DefS.val), true)
def SaysS (fns : List DefS) (K : PySem.W.Frag) : Prop := ((fns.all fun d => d.ok K, fns.map fun d => fnS K (d.at_ K)) : He.AlD) = (true, fns.map DefS.val)
theorem SaysS.def_ {fns : List DefS} {K : PySem.W.Frag} (c : SaysS fns K) (i : Nat) {d : DefS} (h : fns[i]? = some d := by rfl) : fnS K (d.at_ K) = d.val ∧ d.ok K = true := by
  have c1 : (fns.all fun d => d.ok K) = true := congrArg (fun z : He.AlD => z.1) c
  have c2 : (fns.map fun d => fnS K (d.at_ K)) = fns.map DefS.val := congrArg (fun z : He.AlD => z.2) c
  have c3 : (fns.map fun d => fnS K (d.at_ K))[i]? = (fns.map DefS.val)[i]? := by rw [c2]
  rw [List.getElem?_map, List.getElem?_map, h] at c3
  exact ⟨Option.some.inj c3, List.all_eq_true.mp c1 d (List.mem_of_getElem? h)⟩
structure SaysW (fa : List He.Fa) (fn : List He.DefD) (fna : List He5.DefA) (fns : List DefS) (tf : List He.Defn) (ex : PySem.W.Frag → Bool) (h : Heap) (K : PySem.W.Frag) : Prop where
  d : He.SaysD fa fn K
  a : He5.SaysA [] fna K
  s : SaysS fns K
  more : ex K = true
  hd : ∀ p ∈ tf, PySem.W.codeHdIn K (He.cT K p).1 (He.cT K p).2 = true
  out : ∀ p ∈ tf, K.lookup (He.cT K p).2 = none
  empty : ∀ p ∈ tf, h.get? (He.cT K p).2 = some { cls := .none, data := .fields #[] }
theorem saysW_of {n : Nat} {fa : List He.Fa} {fn : List He.DefD} {fna : List He5.DefA} {fns : List DefS} {tf : List He.Defn} {ex : PySem.W.Frag → Bool} {h : Heap} (e : obsW n fa fn fna fns tf ex h.get? = valW fn fna fns) : SaysW fa fn fna fns tf ex h (He.frT h.get? (asW h.get? n)) := by
  unfold obsW at e
  generalize hK : He.frT h.get? (asW h.get? n) = K at e ⊢
  have e1 : He.obsD fa fn K = He.valD fn := congrArg (fun z : AlW => z.1) e
  have e2 : He5.obsA [] fna K = He5.valA fna := congrArg (fun z : AlW => z.2.1) e
  have e3 := congrArg (fun z : AlW => z.2.2.1) e
  have e4 : (ex K && He.tabsB h.get? tf K) = true := congrArg (fun z : AlW => z.2.2.2) e
  obtain ⟨h1, h2⟩ := He.ba e4
  have key : ∀ p ∈ tf, PySem.W.codeHdIn K (He.cT K p).1 (He.cT K p).2 = true ∧ ∃ o, h.get? (He.cT K p).2 = some o ∧ He.emptyTab o = true := fun p hp => by
    obtain ⟨h3, h4⟩ := He.ba (List.all_eq_true.mp h2 p hp)
    refine ⟨h3, ?_⟩
    cases q : h.get? (He.cT K p).2 with
    | none => rw [q] at h4; cases h4
    | some o => rw [q] at h4; exact ⟨o, rfl, h4⟩
  refine ⟨e1, e2, e3, h1, fun p hp => (key p hp).1, fun p hp => ?_, fun p hp => ?_⟩
  · obtain ⟨_, o, q, z⟩ := key p hp
    rw [← hK] at q ⊢
    exact He.frT_none q z
  · obtain ⟨_, o, q, z⟩ := key p hp
    rw [q, He.emptyTab_eq z]
def hookW (n : Nat) (fa : List He.Fa) (fn : List He.DefD) (fna : List He5.DefA) (fns : List DefS) (tf : List He.Defn) (ex : PySem.W.Frag → Bool) : PySem.W.Hook where
  α := AlW
  obs := fun s => obsW n fa fn fna fns tf ex s.heap.get?
  val := fun _ => valW fn fna fns
  says := fun _ h => ∃ K : PySem.W.Frag, K.In h ∧ SaysW fa fn fna fns tf ex h K
  of := fun _ _ e => ⟨_, He.frT_in, saysW_of e⟩
  keeps := fun _ _ _ ⟨K, hK, c⟩ k => ⟨K, PySem.W.Frag.In.keeps hK k, ⟨c.d, c.a, c.s, c.more, c.hd, c.out, fun p hp => k _ _ (c.empty p hp)⟩⟩
theorem obsW_eq {n : Nat} {fa : List He.Fa} {fn : List He.DefD} {fna : List He5.DefA} {fns : List DefS} {tf : List He.Defn} {ex : PySem.W.Frag → Bool} {g : Addr → Option Obj} {s : Shared} (h : ∀ a, g a = s.heap.get? a) : obsW n fa fn fna fns tf ex g = (hookW n fa fn fna fns tf ex).obs s := by
  have e : g = s.heap.get? := funext h
  rw [e] <;> rfl
/-- the end of a law with lambdas -/
theorem closingW {fal : List He.Fa} {fnl : List He.DefD} {fna : List He5.DefA} {fns : List DefS} {xf : PySem.W.Frag → Bool} {l : PySem.W.OpenLaw} {w : World} {K : PySem.W.Frag} {h : Heap} {mg : Str → Option Value} {fa : Addr} {k : Nat} {sp : PySem.W.Frag → Sp} {pa : Arguments} {bd : List Stmt} {sc : Scope}
    (KX : K.In h) (G : h.Ns mainGlobals mg) (hmg : mg ("law" : Str) = some (.ref fa)) (c : SaysW fal fnl fna fns [("law", none)] xf h K) (gl : Env fal fnl fna xf K mg → mg ("law" : Str) = some (.ref (He.ga K "law")))
    (D : ∃ fd, FunD K "law" "law" pa bd sc [] [] (He.ga K "law") fd)
    (F : ∀ (base : Heap) (fd : FuncData), Env fal fnl fna xf K mg → SaysS fns K → LamX.TabB base mg (He.cT K ("law", none)).1 (He.cT K ("law", none)).2 → FunD K "law" "law" pa bd sc [] [] (He.ga K "law") fd → FnOk l.prog w K mg base CX0 k (He.ga K "law") fd ["script"] (sp K))
    (b : ∀ {fd : FuncData}, FunD K "law" "law" pa bd sc [] [] (He.ga K "law") fd → ∀ (s : Shared) (v : Value), BindsTo s fd ⟨[v], []⟩ [("script", v)])
    (hsp : ∀ (H : Hp) (a : Addr) (ns : List Int), ns.length ≤ 63 → H (He.cT K ("law", none)).2 = some (.tbl #[]) → SqL K H a (ns.map V.int) → sp K [.ref a] H (fun v _ => v = .bl true) fun _ _ _ => False) :
    LamX.LawAtS l w K CX0 k 63 "script" mg fa h := by
  have E : Env fal fnl fna xf K mg := ⟨⟨h, KX, G⟩, c.d, c.a, c.more⟩
  obtain ⟨fd, hD⟩ := D
  have e := (gl E).symm.trans hmg
  cases e
  have m1 : (("law", none) : He.Defn) ∈ ([("law", none)] : List He.Defn) := List.mem_singleton.mpr rfl
  have on : ∀ {p : Addr × Addr}, p ∈ [He.cT K ("law", none)] → p = He.cT K ("law", none) := fun hp => List.mem_singleton.mp hp
  refine ⟨fd, [He.cT K ("law", none)], sp K, fun p hp => ?_, fun p hp => ?_, fun p hp => ?_, b hD, fun H a ns hl _ hT hS => hsp H a ns hl (hT _ (List.mem_singleton.mpr rfl)) hS, fun base _ _ hTB => F base fd E c.s (hTB _ (List.mem_singleton.mpr rfl)) hD⟩
  · rw [on hp]; exact c.empty _ m1
  · rw [on hp]; exact c.out _ m1
  · rw [on hp]; exact PySem.W.codeHd_of_K KX (c.hd _ m1)
/-- a def whose code object is told: for what makes defs of its own -/
theorem _root_.L2.FunD.okC {P : Program} {w : World} {K : PySem.W.Frag} {mg : Str → Option Value} {base : Heap} {x : Str} {params : Arguments} {body : List Stmt} {scope : Scope} {dvs : List V} {kws : List (Str × V)} {fd : FuncData} {CX : CXT} {N ps : List Str} {k : Nat} {sp : Sp} (F : FunD K x x params body scope dvs kws (He.ga K x) fd) (S : FnScope N ps scope) (len : ∀ vs H Q E, sp vs H Q E → vs.length = ps.length)
    (hbody : ∀ (A : Around) (outer : List PySem.Env) (s : Shared) (H : Hp) (vs : List V) (Q : VK) (E : XK), Room k (A.deeper (envOfC x scope s.heap.objs.size (He.ga K x) (.ref (He.cT K (x, none)).1))) → sp vs H Q E →
      ∃ t, PSs (cxOf CX P w K mg base N x scope (He.ga K x) (.ref (He.cT K (x, none)).1) A outer s H E) body t ∧ t { nx := fun _ H' => Q .non H', rt := Q } (L2.start N vs) H) : FnOk P w K mg base CX (k + 1) (He.ga K x) fd ps sp := by
  obtain ⟨oc, od, dV, kV, doc, pm, an, cdv, ct, osl, rfl, lk, hcd, _, _⟩ := F.ex
  obtain ⟨c, rfl⟩ := He.codeIn_ref hcd
  have e : He.codeOf K (x, none) = c := He.codeOf_eq (p := (x, none)) (by exact lk) rfl
  have e2 : (He.cT K (x, none)).1 = c := e
  rw [e2] at hbody
  exact fn_of lk hcd S len fun A outer s H vs Q E hr hsp => hbody A outer s H vs Q E hr hsp
end Bx

-- needs hookW
-- imports HandS.TryMany HandS.HotCalls
/-! try: .. except X as e: .. (the first of several clauses; it is X's), the exception told in the heap; defs called there -/
namespace Bx
open PySem PySem.Spec PyProof.Rows L2
/-- a caught exception at a: its class, its dict -/
def excT (a : Addr) (cls : Value) (d : Option Addr) : HO := .ext fun h => ∃ o vs, h.get? a = some o ∧ Zc cls d o ∧ o.data = .fields vs
theorem excT_ne {a : Addr} {cls : Value} {d : Option Addr} : (∀ x, excT a cls d ≠ .own x) ∧ (∀ x, excT a cls d ≠ .tup x) ∧ (∀ o u, excT a cls d ≠ .frz o u) ∧ (∀ p, excT a cls d ≠ .tbl p) ∧ ∀ x, excT a cls d ≠ .lst x :=
  ⟨(fun x z => by unfold excT at z; cases z), (fun x z => by unfold excT at z; cases z), (fun o u z => by unfold excT at z; cases z), (fun p z => by unfold excT at z; cases z), (fun p z => by unfold excT at z; cases z)⟩
section
variable {X : Cx} {pins : List (Addr × Obj)} {σ : L2.St} {H : Hp} {s : Shared}
/-- a fresh record is told from now on -/
theorem Inv.told {a : Addr} {cls : Value} {d : Option Addr} {o : Obj} {vs : Array Value} (I : Inv X pins σ H s) (ha : s.heap.get? a = some o) (hz : Zc cls d o) (hd : o.data = .fields vs) (na : H a = none) (n0 : X.s_0.heap.get? a = none) (nL : a ≠ X.env.locals) (np : ∀ p ∈ X.pn ++ pins, p.1 ≠ a) :
    Inv X pins σ (upd H a (excT a cls d)) s := by
  have ne : ∀ {b : Addr} {u : HO}, H b = some u → b ≠ a := fun e => ne_of_none e na
  refine ⟨I.ok, I.os, I.bare, ⟨I.base.keep, I.base.slot, fun b u e n x => ?_, I.base.there, fun b u e => ?_, fun b u v e => ?_, fun b u e => ?_⟩, I.loc, I.cell, ?_, fun x c e => ?_, fun p hp => ?_, fun b u e => ?_, I.len⟩
  · rw [upd_ne (fun z => by rw [z, n0] at e; cases e)]
    exact I.base.free b u e n x
  · have := I.base.tups b u e
    rw [upd_ne (ne this)]; exact this
  · have := I.base.frzs b u v e
    rw [upd_ne (ne this)]; exact this
  · obtain ⟨more, h⟩ := I.base.tbls b u e
    exact ⟨more, by rw [upd_ne (ne h)]; exact h⟩
  · rw [upd_ne nL.symm]; exact I.free
  · have nc : c ≠ a := fun z => by
      obtain ⟨v, oc, ho, hv⟩ := I.cell x c e
      rw [z, ha] at ho
      cases ho
      rw [hd] at hv
      cases hv
    rw [upd_ne nc]; exact I.freeC x c e
  · obtain ⟨h1, h2, h3⟩ := I.pin p hp
    exact ⟨h1, by rw [upd_ne (np p hp)]; exact h2, h3⟩
  · by_cases hb : b = a
    · subst hb
      rw [upd_same] at e
      cases e
      exact ⟨⟨o, vs, ha, hz, hd⟩, ⟨o, ha⟩, fun h1 h2 ⟨o', vs', q1, q2, q3⟩ k => ⟨o', vs', k _ q1, q2, q3⟩⟩
    · rw [upd_ne hb] at e
      exact (I.hok b u e).stay (fun _ _ _ q => q) (fun c hc => by rw [upd_ne (ne hc)]; exact hc) fun c xs hc => by rw [upd_ne (ne hc)]; exact hc
theorem excT_at {a : Addr} {cls : Value} {d : Option Addr} (I : Inv X pins σ H s) (e : H a = some (excT a cls d)) : ∃ o vs, s.heap.get? a = some o ∧ Zc cls d o ∧ o.data = .fields vs := by
  have x : ObjOk X.prog X.w H s.heap a (.ext fun h => ∃ o vs, h.get? a = some o ∧ Zc cls d o ∧ o.data = .fields vs) := I.hok a _ e
  exact x.1
end
/-- e.f, e a caught exception -/
def tXT (K : PySem.W.Frag) (f : Str) (te : TE) : TE := fun σ H Q => te σ H fun x H1 => ∃ (a C dd : Addr) (fs : List (Str × V)) (v : V), x = .ref a ∧ H1 a = some (excT a (.ref C) (some dd)) ∧ XfC K C ∧ PySem.W.findIn K (.ref C) f = some none ∧ H1 dd = some (.xd fs) ∧ fs.lookup f = some v ∧ Q v H1
theorem pe_xT {X : Cx} {e : Expr} {te : TE} {pos : Pos} {n : Str} (he : PE X e te) (hb : attributeBase e n X.env (eval e X.env) = eval e X.env := by rfl) : PE X (.Attribute e n pos) (tXT X.K n te) := by
  refine ⟨fun pins s σ H Q I h => ?_⟩
  refine attr_of hb (thn (he.run pins s σ H _ I h) fun u s1 hh => ?_)
  obtain ⟨x, H1, I1, rx, a, C, dd, fs, v, rfl, ha, T, hno, hdd, l, q⟩ := hh
  obtain rfl : u = Value.ref a := rx
  obtain ⟨o, vs, ho, hz, hd⟩ := excT_at I1 ha
  have hx : ObjOk X.prog X.w H1 s1.heap dd (.xd fs) := I1.hok dd _ hdd
  obtain ⟨mA, hns, hr⟩ := hx
  obtain ⟨od, hod, hl⟩ := lookIn_ns hns
  obtain ⟨u, hu, ru⟩ := RelO.some_of (v := v) (o := mA n) (by rw [← l]; exact hr n)
  have J : PySem.W.InstAt s1.heap a o C (some od) := ⟨ho, hz.1, by unfold PySem.W.notCls; rw [hd] <;> rfl, by rw [hz.2]; exact hod⟩
  exact HandSPX.exc_get I1.kIn J T.ga T.gg T.exC (PySem.W.findObj_own T.hdC hno rfl (by rw [hl, hu])) (handed_of ru) ⟨v, H1, I1.tok _, ru, q⟩
/-- what 'except X as n', the first clause, wishes -/
def wAs1 (nl : Nat) (K : PySem.W.Frag) (c : Value) (i : Nat) (ts : TS) (D : Ends) : WX := fun cls d σ H => PySem.W.exmOne K cls c = some true ∧ ∀ a, H a = none → σ.length = nl → ts { nx := fun σ' H' => D.nx (σ'.set i none) H', rt := D.rt, bk := fun σ' H' => D.bk (σ'.set i none) H', ct := fun σ' H' => D.ct (σ'.set i none) H' } (σ.set i (some (.ref a))) (upd H a (excT a cls d))
/-- the context of the suite -/
abbrev suiteX (X : Cx) (a : Addr) (pn : List (Addr × Obj)) : Cx := { X with A := X.A.mark (some (.ref a)), calm := false, pn := pn, xe := fun _ _ => False }
section
variable {X : Cx} {x n : Str} {c : Value} {i : Nat} {body suite : List Stmt} {b₀ : Stmt} {np pos pos' : Pos} {hds : List ExceptHandler} {tb : WX → TS} {ts : TS}
theorem ps_try_as1 (hex : X.ex = []) (hs : X.stack = X.env :: X.outer) (hf : X.env.frame = some X.env.locals) (hN : X.N.Nodup) (hi : X.N[i]? = some n) (hln : X.env.kindOf n = some .local) (hc : Names X x c)
    (hb : ∀ (W : WX) (pn : List (Addr × Obj)) (xe : Value → Shared → Prop), Takes (X.tr pn xe) W → PassesOwn (model X.prog X.w) X.A X.env xe → PSs (X.tr pn xe) body (tb W))
    (hsu : ∀ (a : Addr) (pn : List (Addr × Obj)), PSs (suiteX X a pn) (b₀ :: suite) ts) :
    PS X (.Try body (.ExceptHandler (some (.Name x np)) (some n) (b₀ :: suite) pos' :: hds) [] [] pos) (fun D σ H => tb (wAs1 X.N.length X.K c i ts D) D σ H) := by
  refine ⟨fun pins s σ H D I h => ?_⟩
  have ok := I.ok
  have frm : X.A.frames = some (X.env :: X.outer) := by rw [ok.frames, hs]
  refine wpAny_Try_except ?_
  have run := (hb (wAs1 X.N.length X.K c i ts D) (X.pn ++ pins) (fun e s₁ => wpAny (model X.prog X.w) X.A (noteFrame e X.env) (fun _ s₂ => wpAny (model X.prog X.w) X.A (setFlight e none) (fun _ s₃ =>
    wpAny (model X.prog X.w) X.A (handleBy e X.env (.ExceptHandler (some (.Name x np)) (some n) (b₀ :: suite) pos' :: hds)) (SP X pins D) X.xe s₃) X.xe s₂) X.xe s₁) (fun u s' xx => ?_) PassesOwn.looking).run [] s σ H D (I.toTry _) h
  · refine wpAny_mono run (fun f s1 hsp => ?_) fun _ _ z => z
    cases f with
    | next =>
      obtain ⟨σ', H', J', q⟩ := hsp
      exact wpAny_execs_nil ⟨σ', H', J'.ofTry ok, q⟩
    | brk =>
      obtain ⟨σ', H', J', q⟩ := hsp
      exact ⟨σ', H', J'.ofTry ok, q⟩
    | cont =>
      obtain ⟨σ', H', J', q⟩ := hsp
      exact ⟨σ', H', J'.ofTry ok, q⟩
    | ret u =>
      obtain ⟨v, σ', H', J', r, q⟩ := hsp
      exact ⟨v, σ', H', J'.ofTry ok, r, q⟩
  · obtain ⟨a, B, sI, pins', σ', H', cls, d, rfl, J', nb, up, sky, na, os, ag, hb1, hyes⟩ := xx
    have J : Inv X pins σ' H' sI := J'.ofTry ok
    have sky' : Sky B (X.env :: X.outer) a (Zc cls d) X.env.locals s'.heap := by rw [← hs]; exact sky
    have Bn : B.get? a = none := by
      rcases sky' with ⟨_, h, _⟩ | h | h
      · exact h
      · exact h.2.1
      · exact h.2.1
    show wpAny (model X.prog X.w) X.A (noteFrame (.ref a) X.env) _ _ _
    refine Sky.land Zc.steady frm hf sky' fun h3 fl3 up3 => ?_
    have J3 : Inv X pins σ' H' { s' with heap := h3 } := J.landed nb fl3.1 (up.trans up3) os ag
    obtain ⟨oe3, vs3, he3, hz3, hd3⟩ := fl3.there
    have notFr : ∀ {h : Heap} {o : Obj} {vs : Array Value}, h.FunFrames B (X.env :: X.outer) → h.get? a = some o → o.data = .fields vs → a ∉ frs (X.env :: X.outer) := fun {h o vs} ff e dd hm => by
      obtain ⟨_, o', e', hnf⟩ := ff.mem hm
      rw [e] at e'
      cases e'
      exact hnf _ dd
    have nfr := notFr fl3.2.2.1 he3 hd3
    have nfs : a ∉ frs X.stack := by rw [hs]; exact nfr
    have nI : ∀ o, sI.heap.get? a ≠ some o := fun o e => by
      have := nb a o e nfs
      rw [Bn] at this
      cases this
    have nL : a ≠ X.env.locals := fun z => nfr (List.mem_filterMap.mpr ⟨X.env, List.mem_cons_self, by rw [hf, z]⟩)
    have nF : a ∉ X.fs := fun hm => by
      obtain ⟨e, he, q⟩ := List.mem_filterMap.mp hm
      exact nfr (List.mem_filterMap.mpr ⟨e, List.mem_cons_of_mem _ he, q⟩)
    have n0 : X.s_0.heap.get? a = none := by
      cases q : X.s_0.heap.get? a with
      | none => rfl
      | some o =>
        obtain ⟨o', e'⟩ := J.base.there a o q (by rw [hex]; intro z; cases z)
        exact absurd e' (nI o')
    have npin : ∀ p ∈ X.pn ++ pins, p.1 ≠ a := fun p hp z => by
      have := (J.pin p hp).1
      rw [z] at this
      exact nI _ this
    have S3 := J3.suite he3 hd3 na nL nF
    refine wpAny_handleBy_cons (codeAny_handlers_test ?_) (by intro q; cases q)
    have LT : PySem.W.Looks (model X.prog X.w) h3 (typeOf (.ref a)) cls := fun A Q E s k q => wpAny_typeOf_ref (k _ _ he3) (by rw [hz3.1]; exact q)
    have LM := PySem.W.exm_one (M := model X.prog X.w) (J3.kIn) LT hb1
    have test : ∀ {Q : Value → Shared → Prop} {E : Value → Shared → Prop}, Q c { s' with heap := h3 } → wpAny (model X.prog X.w) (X.A.mark (some (.ref a))) (eval (.Name x np) X.env) Q E { s' with heap := h3 } := fun {Q E} q => by
      obtain ⟨hg, hdbg, hm | ⟨hm, hv, hnn⟩⟩ := hc
      · exact ld_glob (X := X.suite a ((a, oe3) :: (X.pn ++ pins))) S3 hg hm q hdbg
      · exact ld_blt (X := X.suite a ((a, oe3) :: (X.pn ++ pins))) S3 hg hm hv q hnn hdbg
    refine test (LM.here ?_)
    refine codeAny_handlers_suite_as ?_
    refine HandSPX.lands_againZ fl3 fun h4 fl4 up4 => ?_
    have J4 : Inv X pins σ' H' { s' with heap := h4 } := J.landed nb fl4.1 ((up.trans up3).trans up4) os ag
    obtain ⟨oe4, vs4, he4, hz4, hd4⟩ := fl4.there
    have T4 := Inv.told J4 he4 hz4 hd4 na n0 nL npin
    have S4 : Inv (suiteX X a (X.pn ++ pins)) [] σ' (upd H' a (excT a cls d)) { s' with heap := h4 } :=
      ⟨T4.ok.suite a _, T4.os, T4.bare, T4.base, T4.loc, T4.cell, T4.free, T4.freeC, fun p hp => T4.pin p (by rw [List.append_nil] at hp; exact hp), T4.hok, T4.len⟩
    refine store_ok (X := suiteX X a (X.pn ++ pins)) (v := .ref a) S4 hN hi (.inl hln) rfl (fun s5 S5 => ?_) (.inr hln)
    have back : ∀ {σ6 : L2.St} {H6 : Hp} {s6 : Shared}, Inv (suiteX X a (X.pn ++ pins)) [] σ6 H6 s6 → Inv X pins σ6 H6 s6 := fun S => ⟨ok, S.os, S.bare, S.base, S.loc, S.cell, S.free, S.freeC, fun p hp => S.pin p (List.mem_append_left _ hp), S.hok, S.len⟩
    refine wpAny_mono ((hsu a (X.pn ++ pins)).run [] s5 _ _ _ S5 (hyes a na J.len)) (fun f s6 hsp => ?_) fun _ _ z => False.elim z
    have end_ : ∀ {σ6 : L2.St} {H6 : Hp} {Q : Shared → Prop}, Inv (suiteX X a (X.pn ++ pins)) [] σ6 H6 s6 → (∀ s7, Inv X pins (σ6.set i none) H6 s7 → Q s7) →
        wpAny (model X.prog X.w) X.A (do bindName X.env n .none; unbindBehindTheSuite X.env n pos') (fun _ s7 => Q s7) X.xe s6 := fun {σ6 H6 Q} S6 hq => gone_ok (back S6) hN hi hln hq
    cases f with
    | next =>
      obtain ⟨σ6, H6, S6, q6⟩ := hsp
      exact end_ S6 fun s7 J7 => ⟨_, _, J7, q6⟩
    | brk =>
      obtain ⟨σ6, H6, S6, q6⟩ := hsp
      exact end_ S6 fun s7 J7 => ⟨_, _, J7, q6⟩
    | cont =>
      obtain ⟨σ6, H6, S6, q6⟩ := hsp
      exact end_ S6 fun s7 J7 => ⟨_, _, J7, q6⟩
    | ret u =>
      obtain ⟨v6, σ6, H6, S6, r6, q6⟩ := hsp
      exact end_ S6 fun s7 J7 => ⟨_, _, _, J7, r6, q6⟩
end
end Bx

-- needs tryX
-- imports HandS.TryMany HandS.HotCalls HandS.Defaults
/-! a def called where an exception may be handled: it neither raises nor leans on the calm -/
namespace Bx
open PySem PySem.Spec PyProof.Rows L2 L2H
/-- the context of its body -/
def cxA (P : Program) (w : World) (K : PySem.W.Frag) (mg : Str → Option Value) (base : Heap) (N : List Str) (qual : Str) (scope : Scope) (f : Addr) (cd : Value) (A : Around) (outer : List PySem.Env) (s : Shared) (H : Hp) : Cx :=
  { cxOf CX0 P w K mg base N qual scope f cd A outer s H E0 with calm := false, xe := fun _ _ => False }
structure FnA (P : Program) (w : World) (K : PySem.W.Frag) (mg : Str → Option Value) (base : Heap) (k : Nat) (f : Addr) (fd : FuncData) (ps : List Str) (sp : Sp) : Prop where
  len : ∀ vs H Q E, sp vs H Q E → vs.length = ps.length
  run : ∀ (A : Around) (outer : List PySem.Env) (s : Shared) (H : Hp) (args : Args) (us : List Value) (vs : List V) (Q : VK) (E : XK), RoomH k A → Env0 P w K mg base A outer s H → BindsTo s fd args (ps.zip us) → Vals vs us → sp vs H Q E →
    codeAny (model P w) A (.call (.ref f) args) (fun r s' => ∃ u, r = .ok (.ret u) ∧ CE outer P w H s Q u s') s
theorem inv_startA {P : Program} {w : World} {K : PySem.W.Frag} {mg : Str → Option Value} {base : Heap} {N ps : List Str} {qual : Str} {scope : Scope} {f : Addr} {cd : Value} {A : Around} {outer : List PySem.Env} {s s1 : Shared} {H : Hp} {us : List Value} {vs : List V}
    (S : FnScope N ps scope) (e0 : Env0 P w K mg base A outer s H) (hl : vs.length = ps.length) (r : Vals vs us)
    (x : InCallC s s.heap.objs.size (bindL (envOfC qual scope s.heap.objs.size f cd).kindOf (ps.zip us) fun _ => none) (cellsFrom (s.heap.objs.size + 1) scope.names []) (bindC (envOfC qual scope s.heap.objs.size f cd).kindOf (ps.zip us) fun _ => none) s1) :
    Inv (cxA P w K mg base N qual scope f cd A outer s H) [] (L2.start N vs) H s1 := by
  have hpl : ps.length ≤ N.length := by have := congrArg List.length S.pre; rw [List.length_take] at this; omega
  obtain ⟨h1, tk, rfl, hk⟩ := x.done
  have noA : ∀ b : Addr, b ∉ (cxA P w K mg base N qual scope f cd A outer s H).ex := fun b z => absurd (show b ∈ ([] : List Addr) from z) (by simp)
  refine ⟨⟨e0.mod, S.kind, rfl, rfl, Nat.le_refl _, fun y z c h1 h2 => ?_, fun y hy => ?_, fun y c _ h => ?_, (fun z => Bool.noConfusion (show false = true from z)), Around.frames_deeper e0.frames, .inr ⟨rfl, rfl⟩, fun b z => absurd z (noA b), e0.bs, e0.bsz, fun b _ _ => noA b, fun b z => absurd z (noA b), e0.funs, e0.frf⟩,
    rfl, e0.bare, Un.kept hk, ⟨_, x.toInCall.ns, fun i y v h1 h2 h3 => ?_⟩, fun y c h => ⟨_, x.cell y c h⟩, e0.hok.fresh (Nat.le_refl _), fun y c h => ?_, fun q hq => absurd (show q ∈ ([] : List (Addr × Obj)) ++ [] from hq) (by simp), e0.hok.kept hk, ?_⟩
  · exact name_of_addr x.apart (PySem.mem_of_lookup h1) (PySem.mem_of_lookup h2)
  · have hy : scope.names.lookup y = some .cell ∨ scope.names.lookup y = some .free := hy
    rcases hy with hy | hy
    · exact cell_has hy
    · exact absurd rfl (S.nofree _ (PySem.mem_of_lookup hy))
  · exact Nat.le_of_lt (x.above y c (PySem.mem_of_lookup h))
  · have hi : i < vs.length := by
      unfold L2.start at h2
      by_cases hi : i < vs.length
      · exact hi
      · rw [List.getElem?_append_right (by simpa using hi)] at h2
        rw [List.getElem?_replicate] at h2
        split at h2 <;> cases h2
    have ha : vs[i]? = some v := by
      unfold L2.start at h2
      rw [List.getElem?_append_left (by simpa using hi), List.getElem?_map] at h2
      cases e : vs[i]? with
      | none => rw [e] at h2; cases h2
      | some a => rw [e] at h2; cases h2; rfl
    obtain ⟨u, hu, rv⟩ := r.get ha
    have hp : ps[i]? = some y := by
      rw [← S.pre, List.getElem?_take_of_lt (by omega)]; exact h1
    have ndP : ps.Nodup := by rw [← S.pre]; exact S.nd.sublist (List.take_sublist _ _)
    refine ⟨u, rv, ?_⟩
    rcases S.par y (List.mem_of_getElem? hp) with k | k
    · exact .inl ⟨k, bindL_get ndP hp hu k⟩
    · obtain ⟨c, e⟩ := cell_has (n := s.heap.objs.size + 1) k
      refine .inr ⟨.inl k, c, e, ?_⟩
      have q := x.cell y c e
      rw [bindC_get ndP hp hu (by show scope.names.lookup y ≠ _; rw [k]; decide)] at q
      exact q
  · exact e0.hok.fresh (Nat.le_of_lt (x.above y c (PySem.mem_of_lookup h)))
  · unfold L2.start
    show _ = N.length
    rw [List.length_append, List.length_map, List.length_replicate]
    omega
theorem fn_ofA {P : Program} {w : World} {K : PySem.W.Frag} {mg : Str → Option Value} {base : Heap} {k : Nat} {f : Addr} {name qual : Str} {params : Arguments} {body : List Stmt} {scope : Scope} {dV kV doc pm cdv ct oc : Value} {an od : Option Addr}
    {osl : Array (Option Value)} {N ps : List Str} {sp : Sp} (lk : K.lookup f = some ⟨oc, od, .func (PySem.W.fnOf name qual params body scope dV kV doc pm an cdv ct), osl⟩) (hcd : PySem.W.codeIn K cdv qual = true) (S : FnScope N ps scope)
    (len : ∀ vs H Q E, sp vs H Q E → vs.length = ps.length)
    (hbody : ∀ (A : Around) (outer : List PySem.Env) (s : Shared) (H : Hp) (vs : List V) (Q : VK) (E : XK), RoomH k (A.deeper (envOfC qual scope s.heap.objs.size f cdv)) → sp vs H Q E →
      ∃ t, PSs (cxA P w K mg base N qual scope f cdv A outer s H) body t ∧ t { nx := fun _ H' => Q .non H', rt := Q } (L2.start N vs) H) :
    FnA P w K mg base (k + 1) f (PySem.W.fnOf name qual params body scope dV kV doc pm an cdv ct) ps sp := by
  refine ⟨len, fun A outer s H args us vs Q E hr e0 hb r hsp => ?_⟩
  have hl := len _ _ _ _ hsp
  have KX : K.In s.heap := e0.mod.kin.keeps fun b o e => (e0.bs b o e).1
  have lim : s.heap.NoLimit := e0.mod.nolimit.keeps fun b o e => (e0.bs b o e).1
  have hkind : ∀ y ∈ ps.zip us, scope.names.lookup y.1 = some .local ∨ (scope.names.lookup y.1 = some .cell ∧ ((cellsFrom (s.heap.objs.size + 1) scope.names []).lookup y.1).isSome = true) := fun ⟨n, v⟩ hy => by
    rcases S.par n (List.of_mem_zip hy).1 with q | q
    · exact .inl q
    · exact .inr ⟨q, PySem.W.cellsFrom_some _ _ _ (.inl q)⟩
  refine codeAny_call_function hr.depth (KX _ _ lk) rfl S.co S.gen rfl (PySem.W.codeRec_of KX hcd) (hb _ _ _ _ ?_)
  refine wpAny_newFunctionEnv_cells S.kind hkind fun env he s1 x => ?_
  subst he
  refine ⟨lim.keeps x.toInCall.keep, codeAny_func ?_⟩
  obtain ⟨t, ht, hq⟩ := hbody A outer s H vs Q E (hr.deeper _) hsp
  have I : Inv (cxA P w K mg base N qual scope f cdv A outer s H) [] (L2.start N vs) H s1 := inv_startA S e0 hl r x
  refine wpAny_mono (ht.run [] s1 (L2.start N vs) H _ I hq) (fun fl s' hs => ?_) fun e s' hs => False.elim hs
  have fin : ∀ {σ' : L2.St} {H' : Hp} {v : V} {u : Value}, Inv (cxA P w K mg base N qual scope f cdv A outer s H) [] σ' H' s' → L2.RelV v u → Q v H' → CE outer P w H s Q u s' :=
    fun {σ' H' v u} J rv q => ⟨v, H', J.os, J.bare, J.base, J.hok, rv, q⟩
  cases fl with
  | ret u =>
    obtain ⟨v, σ', H', J, rv, q⟩ := hs
    exact ⟨_, rfl, fin J rv q⟩
  | next =>
    obtain ⟨σ', H', J, q⟩ := hs
    exact ⟨_, rfl, fin (v := V.non) (u := Value.none) J rfl q⟩
  | brk =>
    obtain ⟨_, _, _, q⟩ := hs
    exact False.elim q
  | cont =>
    obtain ⟨_, _, _, q⟩ := hs
    exact False.elim q
theorem _root_.L2.FunD.okA {P : Program} {w : World} {K : PySem.W.Frag} {mg : Str → Option Value} {base : Heap} {x qual : Str} {params : Arguments} {body : List Stmt} {scope : Scope} {dvs : List V} {kws : List (Str × V)} {f : Addr} {fd : FuncData} {N ps : List Str} {k : Nat} {sp : Sp} (F : FunD K x qual params body scope dvs kws f fd) (S : FnScope N ps scope) (len : ∀ vs H Q E, sp vs H Q E → vs.length = ps.length)
    (hbody : ∀ (cdv : Value) (A : Around) (outer : List PySem.Env) (s : Shared) (H : Hp) (vs : List V) (Q : VK) (E : XK), RoomH k (A.deeper (envOfC qual scope s.heap.objs.size f cdv)) → sp vs H Q E →
      ∃ t, PSs (cxA P w K mg base N qual scope f cdv A outer s H) body t ∧ t { nx := fun _ H' => Q .non H', rt := Q } (L2.start N vs) H) : FnA P w K mg base (k + 1) f fd ps sp := by
  obtain ⟨oc, od, dV, kV, doc, pm, an, cdv, ct, osl, rfl, lk, hcd, _, _⟩ := F.ex
  exact fn_ofA lk hcd S len fun A outer s H vs Q E hr hsp => hbody cdv A outer s H vs Q E hr hsp
/-- a def under the module's name x, called anywhere -/
def GoodA (P : Program) (w : World) (K : PySem.W.Frag) (mg : Str → Option Value) (base : Heap) (k : Nat) (x : Str) (ps : List Str) (sp : Sp) : Prop :=
  ∃ fd, FnA P w K mg base k (He.ga K x) fd ps sp ∧ Binds K fd ps [] ∧ PySem.W.keepIn K (.ref (He.ga K x)) = true ∧ mg x = some (.ref (He.ga K x))
section
variable {X : Cx} {k : Nat} {ps : List Str} {sp : Sp} {x : Str} {q pos : Pos} {e : Expr} {es : List Expr} {t : TA}
theorem pe_GA (G : GoodA X.prog X.w X.K X.mg X.base k x ps sp) (hr : RoomH k X.A) (hg : Gl X x)
    (ha : PA X (e :: es) t) (hdb : (x == ("__debug__" : Str)) = false := by decide) (he : starEach (e :: es) X.env = (false, eval e X.env) :: starEach es X.env := by rfl) (hpl : (backTo pos (starEach es X.env)).any (·.1) = false := by rfl) :
    PE X (.Call (.Name x q) (e :: es) [] pos) (tCall sp [] E0 t) := by
  obtain ⟨fd, F, hb, hk, hm⟩ := G
  refine ⟨fun pins s σ H Q I h => ?_⟩
  refine wpAny_Call_Name_kw (ld_glob I hg hm ?_ hdb)
  refine PySem.W.callWith_K (h₀ := X.base) I.ok.mod.kin hk (thn (ha.run pos pins s σ H _ I h) fun us s1 ⟨vs, H1, I1, r, q⟩ => ⟨I1.kIn, ?_⟩) he hpl
  have q : sp (vs ++ []) H1 Q E0 := q
  rw [List.append_nil] at q
  have hl : us.length = ps.length := by rw [← r.length]; exact F.len _ _ _ _ q
  have b := hb s1 us I1.kIn (by rw [List.append_nil]; exact hl)
  rw [List.append_nil] at b
  refine wpAny_call (codeAny_mono (F.run X.A X.stack s1 H1 ⟨us, []⟩ us vs Q E0 hr I1.env0 b r q) fun r s' hq => ?_)
  obtain ⟨u, rfl, hq⟩ := hq
  exact I1.after hq
end
end Bx

-- needs fnA hookW
-- imports HandS.Lambda
/-! _law_try: a lambda called within try .. except PathError as e: (e.tag, _law_field(e)) -/
namespace Bx
open PySem PySem.Spec PyProof.Rows L2 LamX L2H
/-- the field that a tag names -/
def fldOf (tag : Str) : Option Str :=
  if inV (.str tag) [.str "InvalidPair", .str "InvalidCount"] then some "given" else
  if inV (.str tag) [.str "InvalidName", .str "DuplicateName", .str "InUse", .str "WrongKind", .str "Ring", .str "UnknownName", .str "Ended"] then some "name" else
  if inV (.str tag) [.str "InvalidLimit", .str "CapacityExceeded", .str "TooLong"] then some "limit" else
  if decide (V.str tag = V.str "InvalidProgram") then some "line" else
  if decide (V.str tag = V.str "InvalidCommand") then some "word" else
  if decide (V.str tag = V.str "InvalidItem") then some "place" else
  if decide (V.str tag = V.str "Heavy") then some "most" else
  if decide (V.str tag = V.str "ParseError") then some "row" else none
/-- what _law_field says of an exception with this tag and these fields -/
def FldOk (K : PySem.W.Frag) (C : Addr) (fs : List (Str × V)) (tag : Str) (v : V) : Prop := match fldOf tag with
  | none => v = .non
  | some f => PySem.W.findIn K (.ref C) f = some none ∧ fs.lookup f = some v
def sp_field (K : PySem.W.Frag) : Sp := fun vs H Q _ => ∃ (a C dd : Addr) (fs : List (Str × V)) (tag : Str) (v : V), vs = [.ref a] ∧ H a = some (excT a (.ref C) (some dd)) ∧ XfC K C ∧ PySem.W.findIn K (.ref C) "tag" = some none ∧ H dd = some (.xd fs) ∧
  fs.lookup ("tag" : Str) = some (.str tag) ∧ FldOk K C fs tag v ∧ ∀ H', Same H H' → Q v H'
/-- the exception that _law_try tells -/
def ETry (K : PySem.W.Frag) (c : Addr) (Q : VK) : XK := fun cls d H' => ∃ (C dd : Addr) (fs : List (Str × V)) (tag : Str) (v : V), cls = .ref C ∧ d = some dd ∧ PySem.W.exmOne K (.ref C) (.ref c) = some true ∧ H' dd = some (.xd fs) ∧ XfC K C ∧
  PySem.W.findIn K (.ref C) "tag" = some none ∧ fs.lookup ("tag" : Str) = some (.str tag) ∧ FldOk K C fs tag v ∧ ∀ H1, Same H' H1 → ∀ p, H1 p = none → Q (.ref p) (upd H1 p (.tup [.str tag, v]))
/-- _law_try of a lambda that reads tl -/
def TTry (K : PySem.W.Frag) (c : Addr) : (XK → Hp → VK → Prop) → Hp → VK → Prop := fun tl H Q => tl (ETry K c Q) H fun v H' => ([.str "value", v] : List V).length ≤ sizeLine ∧ ∀ p, H' p = none → Q (.ref p) (upd H' p (.tup [.str "value", v]))
theorem try_gives {X : Cx} {k kf : Nat} {q : Str} {sg : Scope} {g c : Addr} {cdg : Value} {j j2 j3 : Nat} {p1 p2 p3 p4 p5 p6 p7 p8 p9 pa pb pc pd pe pf : Pos} {hds : List ExceptHandler}
    (G : GoodA X.prog X.w X.K X.mg X.base kf "_law_field" ["e"] (sp_field X.K)) (hr : Room (k + 1) X.A) (hk : kf ≤ k)
    (hln : sg.names.lookup ("e" : Str) = some .local) (hge : sg.names.lookup ("PathError" : Str) = some .globalImplicit) (hme : X.mg "PathError" = some (.ref c)) (hgf : sg.names.lookup ("_law_field" : Str) = some .globalImplicit) :
    GivesTo X ["ask", "e"] "_law_try" sg g cdg [.Try [.Return (some (.Tuple [.Constant (.str "value") j p1, .Call (.Name "ask" p2) [] [] p3] j2 p4)) p5]
      (.ExceptHandler (some (.Name "PathError" p6)) (some "e") [.Return (some (.Tuple [.Attribute (.Name "e" p7) "tag" p8, .Call (.Name "_law_field" p9) [.Name "e" pa] [] pb] j3 pc)) pd] pe :: hds) [] [] pf] "ask" q (TTry X.K c) := by
  intro fl c' s H Q tl act hc h
  have hr1 : Room k (X.A.deeper (envOfC "_law_try" sg s.heap.objs.size g cdg)) := hr.deeper _
  let Y : Cx := (cxOf CX0 X.prog X.w X.K X.mg X.base ["ask", "e"] "_law_try" sg g cdg X.A X.stack s H E0).nox
  have nmE : Names Y "PathError" (.ref c) := ⟨hge, by decide, .inl hme⟩
  have ve : ∀ ax pn, PE (suiteX Y ax pn) (.Name "e" p7) (tVar 1) := fun ax pn => pe_var (i := 1) (x := "e") rfl (.inl hln) (by decide) (by decide)
  have vt : ∀ ax pn, PE (suiteX Y ax pn) (.Attribute (.Name "e" p7) "tag" p8) (tXT X.K "tag" (tVar 1)) := fun ax pn => pe_xT (n := "tag") (ve ax pn) rfl
  have nd2 : Y.N.Nodup := show (["ask", "e"] : List Str).Nodup by decide
  have ve2 : ∀ ax pn, PE (suiteX Y ax pn) (.Name "e" pa) (tVar 1) := fun ax pn => pe_var (i := 1) (x := "e") rfl (.inl hln) (by decide) (by decide)
  refine ⟨_, pss_one (ps_try_as1 (X := Y) (c := .ref c) (i := 1) (x := "PathError") (n := "e")
      (tb := fun W D σ H => ∃ Ech : XK, (∀ cls d σ' H', Ech cls d H' → W cls d σ' H') ∧ σ[0]? = some (some (.ref fl)) ∧ H c' = some (CodeO c' q) ∧ tl Ech H (fun v H1 => ([.str "value", v] : List V).length ≤ sizeLine ∧ ∀ p, H1 p = none → D.rt (.ref p) (upd H1 p (.tup [.str "value", v]))))
      rfl rfl rfl nd2 rfl hln nmE (fun W pn xe tk _ => ?_) fun ax pn => pss_one (ps_ret (pe_tup (pa_cons (X := suiteX Y ax pn) (vt ax pn) (pa_cons (pe_GA (k := kf) G (X := suiteX Y ax pn) ⟨(roomH_of hr1 |>.mono hk).dp, (roomH_of hr1 |>.mono hk).un⟩ hgf (pa_cons (ve2 ax pn) pa_nil)) pa_nil))))), ?_⟩
  · refine ⟨fun pins s' σ H' D I h' => ?_⟩
    obtain ⟨Ech, hW, h1, h2, h3⟩ := h'
    have hp := act W pn xe Ech p2 p3 tk hW
    have hq := pss_one (ps_ret (pos := p5) (pe_tup (x1 := j2) (pos := p4) (pa_cons (pe_str (x := "value") (j := j) (pos := p1)) (pa_cons hp pa_nil))))
    exact hq.run pins s' σ H' D I ⟨h1, h2, h3⟩
  · refine ⟨ETry X.K c Q, fun cls d σ' H' x => ?_, rfl, hc, h⟩
    obtain ⟨C, dd, fs, tag, v, rfl, rfl, ex, hd, T, ht, l, fo, hq⟩ := x
    refine ⟨ex, fun ax na hl => ?_⟩
    have hs1 : (List.set σ' 1 (some (V.ref ax)))[1]? = some (some (V.ref ax)) := by
      rw [List.getElem?_set_self]
      have hl : σ'.length = 2 := hl
      omega
    have e1 : Same H' (upd H' ax (excT ax (.ref C) (some dd))) := same_new na
    have ea : upd H' ax (excT ax (.ref C) (some dd)) ax = some (excT ax (.ref C) (some dd)) := upd_same
    have ed : upd H' ax (excT ax (.ref C) (some dd)) dd = some (.xd fs) := e1 _ _ hd
    refine ⟨.ref ax, hs1, ax, C, dd, fs, .str tag, rfl, ea, T, ht, ed, l, .ref ax, hs1, ?_⟩
    refine ⟨ax, C, dd, fs, tag, v, rfl, ea, T, ht, ed, l, fo, fun H2 e2 => ⟨by show 2 ≤ sizeLine; decide, fun p hp => ?_⟩⟩
    exact hq H2 (e1.trans e2) p hp
/-- _law_try, as the caller sees it -/
def GoodT (P : Program) (w : World) (K : PySem.W.Frag) (mg : Str → Option Value) (base : Heap) (k : Nat) (c : Addr) : Prop :=
  ∃ (oc dV kV doc pm cdv ct : Value) (an od : Option Addr) (osl : Array (Option Value)) (pg : Arguments) (bg : List Stmt) (sg : Scope),
    K.lookup (He.ga K "_law_try") = some ⟨oc, od, .func (PySem.W.fnOf "_law_try" "_law_try" pg bg sg dV kV doc pm an cdv ct), osl⟩ ∧ PySem.W.codeIn K cdv "_law_try" = true ∧
    L2.Binds K (PySem.W.fnOf "_law_try" "_law_try" pg bg sg dV kV doc pm an cdv ct) ["ask"] [] ∧ FnScope ["ask", "e"] ["ask"] sg ∧ PySem.W.keepIn K (.ref (He.ga K "_law_try")) = true ∧ mg "_law_try" = some (.ref (He.ga K "_law_try")) ∧
    ∀ (X : Cx) (q : Str), X.prog = P → X.w = w → X.K = K → X.mg = mg → X.base = base → Room (k + 1) X.A → GivesTo X ["ask", "e"] "_law_try" sg (He.ga K "_law_try") cdv bg "ask" q (TTry K c)
section
variable {X : Cx} {k j : Nat} {c cd P : Addr} {p lpos pos : Pos} {params : Arguments} {body : Expr} {scope : Scope} {t : XK → TE}
theorem pe_T (G : GoodT X.prog X.w X.K X.mg X.base k c) (hg : Gl X "_law_try") (TB : TabB X.base X.mg cd P) (hcode : X.env.code = .ref cd) (hr : Room (k + 1) X.A) (hj : j + 1 ≤ k) (L : LamS X.env.scope scope) (hdef : defaultsOf params X.env = ([], []))
    (hbind : ∀ (q : Str) (cl : List (Str × Addr)) (pm cv ctv : Value), bindArgs (PySem.W.kla_fn "<lambda>" q params body scope cl pm cv ctv) ⟨[], []⟩ = pure [])
    (hbody : ∀ (A : Around) (outer : List PySem.Env) (s : Shared) (H : Hp) (E : XK) (f c' : Addr), Room j (A.deeper (lamEnv X scope s.heap.objs.size f c')) → PE (lamCx X A outer s H E scope f c') body (t E)) :
    PE X (.Call (.Name "_law_try" p) [.Lambda params body scope lpos] [] pos) (tLam [(P, X.env.qual ++ "<lambda>")] (TTry X.K c) t) := by
  obtain ⟨oc, dV, kV, doc, pm, cdv, ct, an, od, osl, pg, bg, sg, lk, hcg, hb, S, hk, hm, hG⟩ := G
  have hva : Vis sg "ask" := by
    rcases S.par "ask" (by decide) with k | k
    · exact .inl k
    · exact .inr (.inl k)
  exact pe_lamcall hg hm hk lk hcg hb S rfl hva (hG X _ rfl rfl rfl rfl rfl hr) TB hcode (List.mem_singleton.mpr rfl) (fun q hq _ => by rw [List.mem_singleton.mp hq]) (hr.mono (by omega)) L hdef hbind hbody
end
theorem good_try {P : Program} {w : World} {K : PySem.W.Frag} {mg : Str → Option Value} {base : Heap} {k : Nat} {c : Addr} {pg : Arguments} {bg : List Stmt} {sg : Scope} {fd : FuncData} (F : FunD K "_law_try" "_law_try" pg bg sg [] [] (He.ga K "_law_try") fd) (hb : L2.Binds K fd ["ask"] []) (S : FnScope ["ask", "e"] ["ask"] sg) (hm : mg "_law_try" = some (.ref (He.ga K "_law_try")))
    (hG : ∀ (X : Cx) (q : Str) (cdv : Value), X.prog = P → X.w = w → X.K = K → X.mg = mg → X.base = base → Room (k + 1) X.A → GivesTo X ["ask", "e"] "_law_try" sg (He.ga K "_law_try") cdv bg "ask" q (TTry K c)) : GoodT P w K mg base k c := by
  have hk := F.kp
  obtain ⟨oc, od, dV, kV, doc, pm, an, cdv, ct, osl, rfl, lk, hcd, _, _⟩ := F.ex
  exact ⟨oc, dV, kV, doc, pm, cdv, ct, an, od, osl, pg, bg, sg, lk, hcd, hb, S, hk, hm, fun X q h1 h2 h3 h4 h5 hr => hG X q cdv h1 h2 h3 h4 h5 hr⟩
theorem passF {X : Cx} : Passes (L2.CX X.prog X.w) X (fun _ _ _ => False) := passes_call takes0 fun _ _ _ _ h => h
end Bx

-- needs deep bag
-- imports HandS.Lambda
/-! what stays where a lambda is made: all but the tables of code objects -/
namespace Bx
open PySem PySem.Spec PyProof.Rows L2 LamX
theorem extN_same {H H' : Hp} (e : Same H H') : ExtN H H' := fun b o h _ => e b o h
theorem seqT_extN {K : PySem.W.Frag} {H H' : Hp} {a : Addr} {xs : List V} (e : ExtN H H') (h : SqT K H a xs) : SqT K H' a xs := by
  rcases h with (h | ⟨o, h⟩) | h
  · exact .inl (.inl (e _ _ h fun _ z => by cases z))
  · exact .inl (.inr ⟨o, e _ _ h fun _ z => by cases z⟩)
  · exact .inr h
theorem Dp.extN {K : PySem.W.Frag} {H H' : Hp} (e : ExtN H H') : ∀ {d : PyData} {v : V}, noL d = true → Dp K H v d → Dp K H' v d
  | _, _, _, .non => .non
  | _, _, _, .bl b => .bl b
  | _, _, _, .int i => .int i
  | _, _, _, .str x => .str x
  | _, _, n, .lst _ _ => by cases n
  | .tuple ds, _, n, .tup h1 h2 => .tup (seqT_extN e h1) (go (by rw [noL] at n; exact n) h2)
where go : ∀ {ds : List PyData} {vs : List V}, noLs ds = true → DpAll K H vs ds → DpAll K H' vs ds
  | _, _, _, .nil => .nil
  | d :: ds, _, n, .cons h t => by
    rw [noLs, Bool.and_eq_true] at n
    exact .cons (Dp.extN e n.1 h) (go n.2 t)
theorem Bag.extN {H H' : Hp} {b : Addr} (B : Bag H b) (e : ExtN H H') : Bag H' b := by
  obtain ⟨c, xs, i, hold, seed, h1, h2, r⟩ := B.ex
  exact ⟨c, xs, i, hold, seed, e _ _ h1 (fun _ z => by cases z), e _ _ h2 (fun _ z => by cases z), r⟩
theorem tabs_sameT {T : List (Addr × Str)} {H H' : Hp} (e : SameT H H') (t : Tabs T H) : Tabs T H' := fun p hp => by
  obtain ⟨ps, h1, h2, h3⟩ := t p hp
  refine ⟨ps, e _ _ h1 (fun _ z => by cases z), h2, fun pos cv hc => ?_⟩
  obtain ⟨c, e1, e2⟩ := h3 pos cv hc
  exact ⟨c, e1, e _ _ e2 fun ys z => by unfold CodeO at z; cases z⟩
theorem tabs_one {P : Addr} {q : Str} {H : Hp} (h : H P = some (.tbl #[])) : Tabs [(P, q)] H := fun p hp => by
  rw [List.mem_singleton.mp hp]
  exact TabS.nil h
end Bx

-- needs tryL lamlaw
-- imports HandS.Lambda KE.KLam
/-! lambdas as values: kept, called later; at most one parameter, with a default -/
namespace Bx
open PySem PySem.Spec PyProof.Rows L2 LamX PySem.W PySem.Calls
abbrev mlFn (q : Str) (params : Arguments) (body : Expr) (scope : Scope) (cl : List (Str × Addr)) (dV pm cdv ct : Value) : FuncData :=
  { kla_fn "<lambda>" q params body scope cl pm cdv ct with defaults := dV }
abbrev mlObj (q : Str) (params : Arguments) (body : Expr) (scope : Scope) (cl : List (Str × Addr)) (dV pm : Value) (c' : Addr) (ct : Value) : Obj :=
  { cls := .type "function", data := .func (mlFn q params body scope cl dV pm (.ref c') ct) }
section
variable {M : Model} {A : Around} {E : Value → Shared → Prop} {s : Shared} {q : Str} {params : Arguments} {body : Expr} {scope : Scope} {env : PySem.Env} {c P : Addr} {ps : Array Value} {pos : Pos} {line : Nat} {mg : Str → Option Value}
  {clos : List (Str × Addr)} {Q : Value → Shared → Prop} {dV : Value}
/-- the code object is not there yet -/
theorem ml_tailNew (hcl : closureFor scope env = pure clos) (hg0 : env.globals = mainGlobals) (hg : s.heap.Ns mainGlobals mg) (hcode : env.code = .ref c) (C : CodeHd s.heap c P) (hP : s.heap.get? P = some { cls := .none, data := .fields ps }) (ht : TriplesOk ps.toList)
    (hnf : codeAmong pos ps.toList = none) (hgP : mainGlobals ≠ P) (hb : s.heap.BuiltinsAt mg P)
    (h : ∀ c' ctv h' tk, Heap.ExtBut P s.heap h' → s.heap.objs.size ≤ c' → c' < h'.objs.size → h'.CodeRec (.ref c') q → h'.get? P = some { cls := .none, data := .fields (ps ++ #[rawInt pos.line, rawInt pos.col, .ref c']) } →
      Q (.ref h'.objs.size) { s with heap := h'.push (mlObj q params body scope clos dV ((mg "__name__").getD .none) c' ctv), toks := tk }) :
    wpAny M A (makeTail "<lambda>" q params (.expr body) scope env dV .none none pos line) Q E s := by
  obtain ⟨bm, ob, b1, b2, _, b4, b5, b6, b7, b8⟩ := hb
  unfold makeTail
  rw [hcl, hg0]
  refine wpAny_bind (wpAny_pure ?_)
  by_cases hc : clos.isEmpty = true
  · rw [if_pos hc]
    refine wpAny_bind (wpAny_pure (wpAny_bind (wpAny_functionCodeX hcode (C.code hP ht) (C.tab hP) hnf fun c' h' tk hx hge hlt _ hrec htb _ => ?_)))
    have hg' := hg.extBut hx hgP
    exact wpAny_bind (wpAny_builtinsFor hg' b1 b2 (hx _ _ b4 b5) b6 b7 b8 (wpAny_bind (wpAny_nsGet hg' (wpAny_bind (wpAny_pure (wpAny_newObj_type (h c' .none h' tk hx hge hlt hrec htb.2) (by size_fits)))))))
  · rw [if_neg hc]
    refine wpAny_bind (wpAny_newTextTuple ?_)
    have kp : ∀ {o : Obj} b u, s.heap.get? b = some u → (s.heap.push o).get? b = some u := fun b u e => Heap.get?_push_of_some _ e
    refine wpAny_bind (wpAny_functionCodeX hcode ((C.keeps kp).code (kp _ _ hP) ht) ((C.keeps kp).tab (kp _ _ hP)) hnf fun c' h' tk hx hge hlt _ hrec htb _ => ?_)
    have hg' := (hg.push _).extBut hx hgP
    have hx' : Heap.ExtBut P s.heap h' := fun b o hb' e => hx b o hb' (kp _ _ e)
    have hge' : s.heap.objs.size ≤ c' := Nat.le_trans (by rw [Heap.size_push]; omega) hge
    exact wpAny_bind (wpAny_builtinsFor hg' b1 b2 (hx' _ _ b4 b5) b6 b7 b8 (wpAny_bind (wpAny_nsGet hg' (wpAny_bind (wpAny_pure (wpAny_newObj_type (h c' _ h' tk hx' hge' hlt hrec htb.2) (by size_fits)))))))
/-- .. it is there -/
theorem ml_tailHit {cv : Value} (hcl : closureFor scope env = pure clos) (hg0 : env.globals = mainGlobals) (hg : s.heap.Ns mainGlobals mg) (hcode : env.code = .ref c) (C : CodeHd s.heap c P) (hP : s.heap.get? P = some { cls := .none, data := .fields ps }) (ht : TriplesOk ps.toList)
    (hf : codeAmong pos ps.toList = some cv) (hb : s.heap.BuiltinsAt mg P)
    (h : ∀ (ctv : Value) (h' : Heap) (tk : PySem.Tok), (∀ b o, s.heap.get? b = some o → h'.get? b = some o) → s.heap.objs.size ≤ h'.objs.size →
      Q (.ref h'.objs.size) { s with heap := h'.push { cls := .type "function", data := .func (mlFn q params body scope clos dV ((mg "__name__").getD .none) cv ctv) }, toks := tk }) :
    wpAny M A (makeTail "<lambda>" q params (.expr body) scope env dV .none none pos line) Q E s := by
  obtain ⟨bm, ob, b1, b2, _, b4, b5, b6, b7, b8⟩ := hb
  unfold makeTail
  rw [hcl, hg0]
  refine wpAny_bind (wpAny_pure ?_)
  by_cases hc : clos.isEmpty = true
  · rw [if_pos hc]
    exact wpAny_bind (wpAny_pure (wpAny_bind (wpAny_functionCode_hit hcode (C.code hP ht) hf (wpAny_bind (wpAny_builtinsFor hg b1 b2 b5 b6 b7 b8 (wpAny_bind (wpAny_nsGet hg (wpAny_bind (wpAny_pure (wpAny_newObj_type (h .none s.heap s.toks (fun _ _ e => e) (Nat.le_refl _)) (by size_fits)))))))))))
  · rw [if_neg hc]
    refine wpAny_bind (wpAny_newTextTuple ?_)
    have kp : ∀ {o : Obj} b u, s.heap.get? b = some u → (s.heap.push o).get? b = some u := fun b u e => Heap.get?_push_of_some _ e
    refine wpAny_bind (wpAny_functionCode_hit hcode ((C.keeps kp).code (kp _ _ hP) ht) hf ?_)
    exact wpAny_bind (wpAny_builtinsFor (hg.push _) b1 b2 (kp _ _ b5) b6 b7 b8 (wpAny_bind (wpAny_nsGet (hg.push _) (wpAny_bind (wpAny_pure (wpAny_newObj_type (h _ _ s.toks (fun b o e => kp _ _ e) (by rw [Heap.size_push]; omega)) (by size_fits)))))))
end
/-- the object of a kept lambda -/
def LamO (f : Addr) (o : Obj) : HO := .ext fun h => h.get? f = some o
/-- what is known of a lambda: its name, parameters, body, scope, cells -/
structure LInf where
  q : Str
  params : Arguments
  body : Expr
  scope : Scope
  cl : List (Str × Addr)
/-- the lambda L stands at f; d: its default's value, if it has one -/
def LamAt (L : LInf) (d : Option V) (H : Hp) (f : Addr) : Prop := ∃ (c' : Addr) (dV pm ctv : Value), H f = some (LamO f (mlObj L.q L.params L.body L.scope L.cl dV pm c' ctv)) ∧ H c' = some (CodeO c' L.q) ∧
  ((d = none ∧ dV = .none) ∨ ∃ T x, d = some x ∧ dV = .ref T ∧ H T = some (.tup [x]))
theorem LamAt.mono {L : LInf} {d : Option V} {H H' : Hp} {f : Addr} (e : ∀ b o, H b = some o → (∀ ys, o ≠ .lst ys) → (∀ ps, o ≠ .tbl ps) → H' b = some o) (h : LamAt L d H f) : LamAt L d H' f := by
  obtain ⟨c', dV, pm, ctv, h1, h2, h3⟩ := h
  refine ⟨c', dV, pm, ctv, e _ _ h1 (fun ys z => by unfold LamO at z; cases z) (fun ps z => by unfold LamO at z; cases z), e _ _ h2 (fun ys z => by unfold CodeO at z; cases z) (fun ps z => by unfold CodeO at z; cases z), ?_⟩
  rcases h3 with h3 | ⟨T, x, h3, h4, h5⟩
  · exact .inl h3
  · exact .inr ⟨T, x, h3, h4, e _ _ h5 (fun ys z => by cases z) (fun ps z => by cases z)⟩
section
variable {X : Cx} {pins : List (Addr × Obj)} {σ : L2.St} {H : Hp} {s : Shared}
/-- the function is made and kept -/
theorem lam_make {T : List (Addr × Str)} {c P : Addr} {params : Arguments} {body : Expr} {scope : Scope} {pos : Pos} {line : Nat} {dV : Value} {E : Value → Shared → Prop} {Q : Value → Shared → Prop} (I : L2.Inv X pins σ H s) (TB : TabB X.base X.mg c P) (hcode : X.env.code = .ref c)
    (hm : (P, X.env.qual ++ "<lambda>") ∈ T) (hu : ∀ p ∈ T, p.1 = P → p.2 = X.env.qual ++ "<lambda>") (hT : Tabs T H) (hfree : ∀ y ∈ scope.names, y.2 = .free → ∃ c, X.env.cells.lookup y.1 = some c)
    (h : ∀ (f c' : Addr) (pm ctv : Value) (H1 : Hp) (s' : Shared), L2.Inv X pins σ (upd H1 f (LamO f (mlObj (X.env.qual ++ "<lambda>") params body scope (cloFrom X.env.cells scope.names []) dV pm c' ctv))) s' → ExtN H H1 → Tabs T H1 → H f = none → H1 f = none → H1 c' = some (CodeO c' (X.env.qual ++ "<lambda>")) → Q (.ref f) s') :
    wpAny (model X.prog X.w) X.A (makeTail "<lambda>" (X.env.qual ++ "<lambda>") params (.expr body) scope X.env dV .none none pos line) Q E s := by
  obtain ⟨ps, hP, ht, ha⟩ := hT _ hm
  have bP : s.heap.BuiltinsAt X.mg P := TB.bm.keeps I.bk
  have hP' : s.heap.get? P = some { cls := .none, data := .fields ps } := I.hok P _ hP
  have lay : ∀ {H1 : Hp} {h' : Heap} {tk : Nat} {ob : Obj}, L2.Inv X pins σ H1 { s with heap := h', toks := tk } → (∀ v, ob.data ≠ .cell v) → ob.isFreed = false → L2.Inv X pins σ (upd H1 h'.objs.size (LamO h'.objs.size ob)) { s with heap := h'.push ob, toks := tk } ∧ H1 h'.objs.size = none := fun {H1 h' tk ob} J nc fr =>
    ⟨J.laid (h' := h'.push ob) (t' := tk) (fun b u e => Heap.get?_push_of_some _ e) (Nat.le_refl _) ⟨Heap.get?_push_size _ fr, ⟨_, Heap.get?_push_size _ fr⟩, fun h1 h2 p k => k _ p⟩, J.hok.fresh (Nat.le_refl _)⟩
  cases hc : codeAmong pos ps.toList with
  | none =>
    refine ml_tailNew (mg := X.mg) (c := c) (P := P) (ps := ps) (closure_ok hfree) I.ok.glob (I.mod.glob.keeps I.bk) hcode (TB.code.keeps I.bk) hP' ht hc TB.gP bP fun c' ctv h' tk hx hge hlt hrec htb => ?_
    obtain ⟨c2, oc, vs, t, e2, hoc, hd, hv⟩ := hrec
    cases e2
    have nC : H c' = none := I.hok.fresh hge
    have I1 := inv_table (t' := tk) (more := #[rawInt pos.line, rawInt pos.col, .ref c']) (h' := h') I hP (fun b o hb e => hx b o hb e) htb hge ⟨oc, vs, t, hoc, hd, hv⟩
    have hE : ExtN H (upd (upd H P (.tbl (ps ++ #[rawInt pos.line, rawInt pos.col, .ref c']))) c' (CodeO c' (X.env.qual ++ "<lambda>"))) := fun b o e n => by
      rw [upd_ne (ne_of_none e nC), upd_ne (fun z => n ps (Option.some.inj (e.symm.trans (by rw [z]; exact hP))))]
      exact e
    have eL : (ps ++ #[rawInt pos.line, rawInt pos.col, .ref c']).toList = ps.toList ++ [rawInt pos.line, rawInt pos.col, .ref c'] := by simp
    obtain ⟨J, nf⟩ := lay (ob := mlObj (X.env.qual ++ "<lambda>") params body scope (cloFrom X.env.cells scope.names []) dV ((X.mg "__name__").getD .none) c' ctv) I1 (fun v z => by cases z) rfl
    refine h h'.objs.size c' ((X.mg "__name__").getD .none) ctv _ _ J hE (fun p hp => ?_) (I.hok.fresh (Nat.le_trans hge (Nat.le_of_lt hlt))) nf upd_same
    by_cases hb : p.1 = P
    · rw [hu p hp hb, hb]
      refine ⟨_, by rw [upd_ne (ne_of_none hP nC), upd_same], by rw [eL]; exact PySem.TriplesOk_snoc _ _ _ _ ht, fun p' cv hcv => ?_⟩
      rw [eL] at hcv
      rcases among_app _ ht hcv with z | z
      · obtain ⟨c0, e1, e2⟩ := ha p' cv z
        exact ⟨c0, e1, hE _ _ e2 codeO_ne⟩
      · exact ⟨c', z, upd_same⟩
    · obtain ⟨ps', a1, a2, a3⟩ := hT p hp
      refine ⟨ps', by rw [upd_ne (ne_of_none a1 nC), upd_ne hb]; exact a1, a2, fun p' cv hcv => ?_⟩
      obtain ⟨c0, e1, e2⟩ := a3 p' cv hcv
      exact ⟨c0, e1, hE _ _ e2 codeO_ne⟩
  | some cv =>
    obtain ⟨c', e, hco⟩ := ha pos cv hc
    subst e
    refine ml_tailHit (mg := X.mg) (c := c) (P := P) (ps := ps) (closure_ok hfree) I.ok.glob (I.mod.glob.keeps I.bk) hcode (TB.code.keeps I.bk) hP' ht hc bP fun ctv h' tk hx hsz => ?_
    have I1 : L2.Inv X pins σ H { s with heap := h', toks := tk } := I.kept fun b o e => hx b o e
    obtain ⟨J, nf⟩ := lay (ob := mlObj (X.env.qual ++ "<lambda>") params body scope (cloFrom X.env.cells scope.names []) dV ((X.mg "__name__").getD .none) c' ctv) I1 (fun v z => by cases z) rfl
    exact h h'.objs.size c' ((X.mg "__name__").getD .none) ctv H _ J (ExtN.refl H) hT (I.hok.fresh hsz) nf hco
end
/-- lambda: body -/
def tLamV (T : List (Addr × Str)) (L : LInf) (d : Option V) : TE := fun _ H Q => Tabs T H ∧ ∀ H1 f, ExtN H H1 → Tabs T H1 → LamAt L d H1 f → H f = none → Q (.ref f) H1
section
variable {X : Cx} {c P : Addr} {params : Arguments} {body d : Expr} {scope : Scope} {pos : Pos}
abbrev linf (X : Cx) (params : Arguments) (body : Expr) (scope : Scope) : LInf := ⟨X.env.qual ++ "<lambda>", params, body, scope, cloFrom X.env.cells scope.names []⟩
theorem pe_lam0 (TB : TabB X.base X.mg c P) (hcode : X.env.code = .ref c) (hf : ∀ y ∈ scope.names, y.2 = .free → X.env.scope.names.lookup y.1 = some .cell ∨ X.env.scope.names.lookup y.1 = some .free) (hdef : defaultsOf params X.env = ([], [])) :
    PE X (.Lambda params body scope pos) (tLamV [(P, X.env.qual ++ "<lambda>")] (linf X params body scope) none) := by
  refine ⟨fun pins s σ H Q I h => ?_⟩
  obtain ⟨hT, h⟩ := h
  refine kla_eval hdef ?_
  rw [makeFunction_eq]
  simp only [List.zip_nil_right, List.filterMap_nil, List.isEmpty_nil, if_true, pure_bind]
  refine lam_make I TB hcode (List.mem_singleton.mpr rfl) (fun q hq _ => by rw [List.mem_singleton.mp hq]) hT (fun y hy e => ?_) fun f c' pm ctv H1 s' J eN T1 n0 nf hc => ?_
  · rcases hf y hy e with k | k
    · exact I.ok.has _ (.inl k)
    · exact I.ok.has _ (.inr k)
  · have e1 := same_new (o := LamO f (mlObj (X.env.qual ++ "<lambda>") params body scope (cloFrom X.env.cells scope.names []) .none pm c' ctv)) nf
    exact ⟨.ref f, _, J, rfl, h _ f (eN.trans (extN_same e1)) (T1.ext e1) ⟨c', .none, pm, ctv, upd_same, e1 _ _ hc, .inl ⟨rfl, rfl⟩⟩ n0⟩
/-- lambda a = e: body -/
theorem pe_lam1 {te : TE} (TB : TabB X.base X.mg c P) (hcode : X.env.code = .ref c) (hf : ∀ y ∈ scope.names, y.2 = .free → X.env.scope.names.lookup y.1 = some .cell ∨ X.env.scope.names.lookup y.1 = some .free) (hdef : defaultsOf params X.env = ([eval d X.env], [])) (hkw : params.kwonlyargs = []) (hd : PE X d te) :
    PE X (.Lambda params body scope pos) (fun σ H Q => te σ H fun x H1 => tLamV [(P, X.env.qual ++ "<lambda>")] (linf X params body scope) (some x) σ H1 Q) := by
  refine ⟨fun pins s σ H Q I h => ?_⟩
  rw [arm_eval_Lambda, hdef]
  show wpAny _ _ (do let dv ← evalAll [eval d X.env]; let kdv ← holding dv (evalAllOpt []); makeFunction "<lambda>" (X.env.qual ++ "<lambda>") params (.expr body) scope X.env dv kdv [] pos pos.line) _ _ s
  refine wpAny_bind (wpAny_bind (thn (hd.run pins s σ H _ I h) fun u s1 ⟨x, H1, I1, r1, hT, h1⟩ => ?_))
  refine wpAny_bind (wpAny_holding (wpAny_pure (wpAny_pure (wpAny_bind (wpAny_holding (wpAny_pure ?_))))))
  rw [makeFunction_eq, hkw]
  simp only [List.zip_nil_left, List.filterMap_nil, List.isEmpty_nil, List.isEmpty_cons, Bool.false_eq_true, if_false, if_true, pure_bind]
  refine wpAny_bind (wpAny_newTextTuple ?_)
  have nT : H1 s1.heap.objs.size = none := I1.hok.fresh (Nat.le_refl _)
  have eT := same_new (o := .tup [x]) nT
  have I2 : L2.Inv X pins σ (upd H1 s1.heap.objs.size (.tup [x])) { s1 with heap := s1.heap.push { cls := .type "tuple", data := .seq [u].toArray } } := I1.laid (t' := s1.toks) (fun b u e => Heap.get?_push_of_some _ e) (Nat.le_refl _) ⟨(by show 1 ≤ sizeLine; decide), [u], .cons r1 .nil, ⟨_, Heap.get?_push_size _ rfl, rfl, _, rfl⟩⟩
  refine lam_make I2 TB hcode (List.mem_singleton.mpr rfl) (fun q hq _ => by rw [List.mem_singleton.mp hq]) (hT.ext eT) (fun y hy e => ?_) fun f c' pm ctv H2 s' J eN T1 n0 nf hc => ?_
  · rcases hf y hy e with k | k
    · exact I.ok.has _ (.inl k)
    · exact I.ok.has _ (.inr k)
  · have e1 := same_new (o := LamO f (mlObj (X.env.qual ++ "<lambda>") params body scope (cloFrom X.env.cells scope.names []) (.ref s1.heap.objs.size) pm c' ctv)) nf
    have n1 : H1 f = none := by
      cases q : H1 f with
      | none => rfl
      | some o =>
        have := eT _ _ q
        rw [n0] at this
        cases this
    exact ⟨.ref f, _, J, rfl, h1 _ f ((extN_same eT).trans (eN.trans (extN_same e1))) (T1.ext e1) ⟨c', .ref s1.heap.objs.size, pm, ctv, upd_same, e1 _ _ hc, .inr ⟨_, x, rfl, rfl, e1 _ _ (eN _ _ upd_same fun ps z => by cases z)⟩⟩ n1⟩
end
end Bx

-- needs lamV
-- imports HandS.Comp
/-! [elt for target in iter] where what elt reads may lean on the def's own state (its cells): kept lambdas called one by one -/
namespace Bx
open PySem PySem.Spec PyProof.Rows L2
section
variable {X : Cx} {elt tg iter : Expr} {scope : Scope} {own : List (Str × Nat)} {pos : Pos} {wi : TI} {g : TG} {te : L2.St → TE}
theorem pe_lcI (hc : X.calm = true) (hN : X.N.Nodup) (hi : PI X tg iter wi) (ok : BlkOk X.N X.env.scope scope own)
    (hg : ∀ (s : Shared) (H : Hp) (C : Addr) (cl : List (Str × Addr)) (fp : List Addr), PG (X.blk s H scope (compEnvC scope cl C X.env) fp) tg g)
    (he : ∀ (pins : List (Addr × Obj)) (σ : L2.St) (s : Shared) (H : Hp), L2.Inv X pins σ H s → ∀ (C : Addr) (cl : List (Str × Addr)) (fp : List Addr), (∀ b ∈ fp, FpOk X pins H b) → PE (X.blk s H scope (compEnvC scope cl C X.env) fp) elt (te σ))
    (hs : ∀ x, foldedSetIterable iter X.env x = pure x := by intro _; rfl) : PE X (.ListComp elt [⟨tg, iter, [], 0⟩] scope pos) (fun σ H Q => tLc wi g tYes (te σ) (own.map (·.2)) σ H Q) := by
  refine ⟨fun pins s σ H Q I h => ?_⟩
  have fr : ∀ y ∈ scope.names, y.2 = .free → ∃ c, X.env.cells.lookup y.1 = some c := fun y hy e => (ok.free y hy e).elim (fun k => I.ok.has _ (.inl k)) fun k => I.ok.has _ (.inr k)
  rw [eval_ListComp]
  refine wpAny_comprehension_free (use := none) rfl hs (closure_ok fr) ok.kind (fun y hy e => by rw [ok.uniq y hy, e]) (thn (hi.run pins s σ H _ I h) fun xv s1 hx => thn hx fun itv s2 h2 => ?_)
  obtain ⟨it, fp, tn, J, H2, rfl, I2, T, c2, f2, q⟩ := h2
  refine wpAny_newObj_type (newEnv_comp ?_) (by show 0 ≤ sizeLine; decide)
  obtain ⟨W, ⟨m0, w0⟩, turn⟩ := q s2.heap.objs.size (I2.hok.fresh (Nat.le_refl _))
  have I3 := I2.laid (a := s2.heap.objs.size) (o := .lst []) (h' := s2.heap.push { cls := .type "list", data := .seq ([] : List Value).toArray }) (t' := s2.toks) (fun b o e => Heap.get?_push_of_some _ e) (Nat.le_refl _) ⟨Nat.zero_le _, [], 0, .nil, Heap.get?_push_size _ rfl⟩
  have lt : ∀ b ∈ fp, b < s2.heap.objs.size := fun b hb => by
    obtain ⟨o, e, _⟩ := T.obj _ _ c2 b hb
    exact Heap.lt_size e
  generalize hD : s2.heap.objs.size = D at *
  generalize e3 : ({ s2 with heap := s2.heap.push { cls := .type "list", data := .seq ([] : List Value).toArray } } : Shared) = s3
  have h3 : s3.heap = s2.heap.push { cls := .type "list", data := .seq ([] : List Value).toArray } := by rw [← e3]
  have I3 : L2.Inv X pins σ (upd H2 D (.lst [])) s3 := by rw [← e3]; exact I3
  have f3 : ∀ b ∈ fp, FpOk X pins (upd H2 D (.lst [])) b ∧ b < s3.heap.objs.size := fun b hb => by
    have l := lt b hb
    refine ⟨⟨?_, (f2 b hb).2⟩, by rw [h3, Heap.size_push, hD]; exact Nat.lt_succ_of_lt l⟩
    rw [upd_ne (Nat.ne_of_lt l)]
    exact (f2 b hb).1
  have c3 : tn 0 s3.heap := T.keep _ _ _ c2 fun b _ o e => by rw [h3]; exact Heap.get?_push_of_some _ e
  have n3 : ∀ b ∈ fp, (upd H2 D (.lst [])) b = none := fun b hb => (f3 b hb).1.1
  generalize upd H2 D (.lst []) = H3 at I3 f3 w0 n3
  have I4 := block_start I3 ok hN f3
  have pg := hg s3 H3 s3.heap.objs.size (cellsFrom (s3.heap.objs.size + 1) scope.names (cloFrom X.env.cells scope.names [])) fp
  have pe := he pins σ s3 H3 I3 s3.heap.objs.size (cellsFrom (s3.heap.objs.size + 1) scope.names (cloFrom X.env.cells scope.names [])) fp fun b hb => (f3 b hb).1
  show codeAny _ _ (.compStart (.ListComp elt [⟨tg, iter, [], 0⟩] scope pos) 0 (.ref it) (.ref D) (compEnvC scope (cellsFrom (s3.heap.objs.size + 1) scope.names (cloFrom X.env.cells scope.names [])) s3.heap.objs.size X.env)) (compPost (model X.prog X.w) X.A X.xe none (EP X pins σ Q) (.ref D) s3.heap.objs.size) { s3 with heap := pushCells (s3.heap.push { cls := .type "dict", data := .dict #[] }) scope.names }
  generalize hce : compEnvC scope (cellsFrom (s3.heap.objs.size + 1) scope.names (cloFrom X.env.cells scope.names [])) s3.heap.objs.size X.env = ce at I4 pg pe ⊢
  have cL : ce.locals = s3.heap.objs.size := by subst hce; rfl
  generalize e4 : ({ s3 with heap := pushCells (s3.heap.push { cls := .type "dict", data := .dict #[] }) scope.names } : Shared) = s4 at I4 ⊢
  have c4 : tn 0 s4.heap := T.keep _ _ _ c3 fun b _ o e => by rw [← e4]; exact pushCells_keeps _ _ _ _ (Heap.get?_push_of_some _ e)
  have fine : ∀ {σ' : L2.St} {H' : Hp} {s' : Shared}, L2.Inv (X.blk s3 H3 scope ce fp) [] σ' H' s' → (∀ b ∈ fp, H' b = none) → ∀ b ∈ fp, FpOk (X.blk s3 H3 scope ce fp) [] H' b := fun {σ' H' s'} J n b hb =>
    ⟨n b hb, (J.ok.exf b hb).1, J.ok.exfs b hb, .inl hb, fun x c e => (J.ok.exf b hb).2 x c e, fun p hp => absurd (show p ∈ ([] : List (Addr × Obj)) ++ [] from hp) (by simp)⟩
  refine codeAny_compStart_list ?loop (T.self X.A 0 _ _ _ c4 ?loop)
  -- a turn
  refine compLoop_any (fun n s' => ∃ i H', L2.Inv (X.blk s3 H3 scope ce fp) [] (wipe σ (own.map (·.2))) H' s' ∧ tn i s'.heap ∧ (∀ b ∈ fp, H' b = none) ∧ W i n H') ?_ m0 ⟨0, H3, I4, c4, n3, w0⟩
  rintro n s5 ⟨i, H5, I5, c5, n5, w5⟩
  rcases turn i n H5 w5 with ⟨stop, done⟩ | ⟨go, Nx, less, step⟩
  · refine thnF (T.done (X.blk s3 H3 scope ce fp) rfl rfl rfl hc i [] s5 _ H5 (fun _ _ => False) I5 (fine I5 n5) c5 stop) fun r s6 ⟨hr, I6⟩ => ?_
    subst hr
    have I7 : L2.Inv X pins σ H5 s6 := I3.call' (ch := fp) I6.os I6.base I6.hok I6.bare fun b hb => ⟨(f3 b hb).1.2.2.2.1, (f3 b hb).1.2.1, (f3 b hb).1.2.2.2.2.1, (f3 b hb).1.2.2.2.2.2⟩
    have z : H5 ce.locals = none := I6.free
    obtain ⟨m, hn, _⟩ := I6.loc
    have hn : s6.heap.Ns ce.locals m := hn
    rw [cL] at z hn
    obtain ⟨_, g1, g2, g3, g4, g5⟩ := I3.fpOk (Nat.le_refl _) z
    exact ⟨m, hn, fun h'' sb => ⟨.ref D, H5, I7.turned (t' := s6.toks) (fun b o hb e => (sb.2 b hb).trans e) z g1 g3 g4 g5, rfl, done⟩⟩
  · refine thnF (T.item (X.blk s3 H3 scope ce fp) rfl rfl rfl hc i [] s5 _ H5 (fun _ _ => False) I5 (fine I5 n5) c5 go) fun r s6 ⟨u, hr, h6⟩ => ?_
    subst hr
    refine thnF h6 fun _ s7 ⟨x, H7, I7, r7, y7, c7, n7⟩ => ?_
    refine thnF (pg.run _ s7 _ H7 x u _ (I7.pinned (fine I7 n7) (T.obj _ _ c7)) r7 (step x H7 y7)) fun _ s8 ⟨σ8, H8, I8, hw, q8⟩ => ?_
    refine thnF ((pts_nil (X := X.blk s3 H3 scope ce fp)).run _ s8 σ8 H8 _ I8 q8) fun b s9 ⟨H9, I9, q9⟩ => ?_
    have fin : ∀ {s' : Shared} {H' : Hp}, L2.Inv (X.blk s3 H3 scope ce fp) ([] ++ pinsAt fp s7.heap) σ8 H' s' → Nx H' → ∃ m, m < n ∧ ∃ i H', L2.Inv (X.blk s3 H3 scope ce fp) [] (wipe σ (own.map (·.2))) H' s' ∧ tn i s'.heap ∧ (∀ b ∈ fp, H' b = none) ∧ W i m H' := fun {s' H'} J nx => by
      obtain ⟨m', hm, w'⟩ := less H' nx
      have at_ : ∀ b ∈ fp, ∀ o, s7.heap.get? b = some o → s'.heap.get? b = some o ∧ H' b = none := fun b hb o e =>
        have z := J.pin (b, o) (List.mem_append_right _ (List.mem_append_right _ (mem_pinsAt hb e)))
        ⟨z.1, z.2.1⟩
      refine ⟨m', hm, i + 1, H', (J.unpinned (pins := [])).weak (by rw [← hw, wipe_length]) (fun j v e => ?_), T.keep _ _ _ c7 fun b hb o e => (at_ b hb o e).1, fun b hb => ?_, w'⟩
      · rw [← hw] at e
        exact (wipe_some e).1
      · obtain ⟨o, e, _⟩ := T.obj _ _ c7 b hb
        exact (at_ b hb o e).2
    cases b with
    | false => exact fin I9 q9
    | true =>
      refine thnF (pe.run _ s9 σ8 H9 _ I9 q9) fun z s10 ⟨yv, H10, I10, r10, acc, hD10, hz, nx⟩ => ?_
      exact app_ok (X := X.blk s3 H3 scope ce fp) I10 hD10 hz r10 fun s11 I11 => fin I11 nx
end
end Bx

-- needs lamV lcI
/-! a kept lambda called: its cells hold what the def's slots say -/
namespace Bx
open PySem PySem.Spec PyProof.Rows L2 LamX
/-- the names of a lambda: captured ones, globals, parameters of its own that the def does not know -/
structure Lam1 (N : List Str) (sc scope : Scope) : Prop where
  kind : scope.kind = .function
  co : scope.isCoroutine = false
  gen : scope.isGenerator = false
  nocell : ∀ y ∈ scope.names, y.2 ≠ .cell
  own : ∀ y ∈ N, scope.names.lookup y ≠ some .local
  free : ∀ y ∈ scope.names, y.2 = .free → sc.names.lookup y.1 = some .cell ∨ sc.names.lookup y.1 = some .free
def lam1B (N : List Str) (sc scope : Scope) : Bool :=
  decide (scope.kind = .function) && !scope.isCoroutine && !scope.isGenerator && (scope.names.all fun y => !decide (y.2 = .cell)) && (N.all fun y => !decide (scope.names.lookup y = some .local)) &&
    scope.names.all fun y => (!decide (y.2 = .free) || decide (sc.names.lookup y.1 = some .cell) || decide (sc.names.lookup y.1 = some .free))
theorem lam1_by {N : List Str} {sc scope : Scope} (h : lam1B N sc scope = true) : Lam1 N sc scope := by
  unfold lam1B at h
  simp only [Bool.and_eq_true, Bool.or_eq_true, Bool.not_eq_true', decide_eq_true_eq, decide_eq_false_iff_not, List.all_eq_true] at h
  obtain ⟨⟨⟨⟨⟨h1, h2⟩, h3⟩, h4⟩, h5⟩, h6⟩ := h
  refine ⟨h1, h2, h3, h4, h5, fun y hy e => ?_⟩
  rcases h6 y hy with (z | z) | z
  · exact absurd e z
  · exact .inl z
  · exact .inr z
/-- the cells cl hold what σ says of the captured names -/
structure Cap (N : List Str) (σ : L2.St) (sc : Scope) (cl : List (Str × Addr)) (H : Hp) (h : Heap) : Prop where
  cell : ∀ y c, cl.lookup y = some c → (∃ v, h.IsCell c v) ∧ H c = none
  val : ∀ (i : Nat) y v, N[i]? = some y → σ[i]? = some (some v) → sc.names.lookup y = some .free → ∃ c w, cl.lookup y = some c ∧ L2.RelV v w ∧ h.IsCell c (some w)
  inj : ∀ y z c, cl.lookup y = some c → cl.lookup z = some c → y = z
  has : ∀ y, sc.names.lookup y = some .free → ∃ c, cl.lookup y = some c
section
variable {X : Cx} {pins : List (Addr × Obj)} {σ : L2.St} {H : Hp} {s : Shared} {scope : Scope}
theorem cm_of (L : Lam1 X.N X.env.scope scope) (ok : X.Ok) {y : Str} {c : Addr} (e : (cloFrom X.env.cells scope.names []).lookup y = some c) : X.env.cells.lookup y = some c := by
  rcases cloFrom_mem (PySem.mem_of_lookup e) with hm | ⟨h1, h2⟩
  · cases hm
  · obtain ⟨c1, hc⟩ : ∃ c, X.env.cells.lookup y = some c := (L.free _ h1 rfl).elim (fun k => ok.has _ (.inl k)) fun k => ok.has _ (.inr k)
    have e2 : c = c1 := by
      rw [h2, hc] <;> rfl
    rw [e2]
    exact hc
theorem Cap.of (I : L2.Inv X pins σ H s) (L : Lam1 X.N X.env.scope scope) : Cap X.N σ scope (cloFrom X.env.cells scope.names []) H s.heap where
  cell := fun y c e => ⟨I.cell y c (cm_of L I.ok e), I.freeC y c (cm_of L I.ok e)⟩
  val := fun i y v h1 h2 h3 => by
    obtain ⟨m, hn, hl⟩ := I.loc
    have hf := L.free _ (PySem.mem_of_lookup h3) rfl
    obtain ⟨w, r, q⟩ := hl i y v h1 h2 (hf.elim (fun k => .inr (.inl k)) fun k => .inr (.inr k))
    obtain ⟨c, hc⟩ := mem_lookup (cloFrom_has (cells := X.env.cells) (acc := []) (PySem.mem_of_lookup h3))
    have c1 := cm_of L I.ok hc
    rcases q with ⟨k', _⟩ | ⟨_, c3, e', z⟩
    · have k' : X.env.scope.names.lookup y = some .local := k'
      rcases hf with k2 | k2 <;> rw [show X.env.scope.names.lookup y = _ from k2] at k' <;> cases k'
    · rw [c1] at e'
      cases e'
      exact ⟨_, w, hc, r, z⟩
  inj := fun y z c e1 e2 => I.ok.inj y z c (cm_of L I.ok e1) (cm_of L I.ok e2)
  has := fun y hl => mem_lookup (cloFrom_has (cells := X.env.cells) (acc := []) (PySem.mem_of_lookup hl))
theorem Cap.un {N : List Str} {sc : Scope} {cl : List (Str × Addr)} {h h' : Heap} {H' : Hp} {fs ex : List Addr} (C : Cap N σ sc cl H h) (u : Un fs ex H H' h h') (nx : ∀ y c, cl.lookup y = some c → c ∉ ex) : Cap N σ sc cl H' h' := by
  have st : ∀ y c v, cl.lookup y = some c → h.IsCell c v → h'.IsCell c v := fun y c v e ⟨o, ho, hd⟩ => by
    obtain ⟨sl, q⟩ := u.any ho (C.cell y c e).2 (nx y c e)
    exact ⟨_, q, hd⟩
  refine ⟨fun y c e => ?_, fun i y v h1 h2 h3 => ?_, C.inj, C.has⟩
  · obtain ⟨⟨v, z⟩, n⟩ := C.cell y c e
    refine ⟨⟨v, st y c v e z⟩, ?_⟩
    obtain ⟨o, ho, hd⟩ := z
    exact u.free c o ho n (nx y c e)
  · obtain ⟨c, w, e, r, z⟩ := C.val i y v h1 h2 h3
    exact ⟨c, w, e, r, st y c _ e z⟩
/-- the body's state at its start -/
theorem lam_startV {s1 : Shared} {HZ : Hp} {A : Around} {outer : List PySem.Env} {E : XK} {f c' : Addr} {h₁ : Heap} {tk : Nat} {m : Str → Option Value} (L : Lam1 X.N X.env.scope scope) (C : Cap X.N σ scope (cloFrom X.env.cells scope.names []) HZ s1.heap) (hl : σ.length = X.N.length)
    (e0 : Env0 X.prog X.w X.K X.mg X.base A outer s1 HZ) (hd : A.handled = none) (hns : h₁.Ns s1.heap.objs.size m) (kp : ∀ b o, s1.heap.get? b = some o → h₁.get? b = some o) :
    L2.Inv (lamCx X A outer s1 HZ E scope f c') [] σ HZ { s1 with heap := h₁, toks := tk } := by
  have noA : ∀ b : Addr, b ∉ (lamCx X A outer s1 HZ E scope f c').ex := fun b z => absurd (show b ∈ ([] : List Addr) from z) (by simp)
  have st : ∀ {c : Addr} {v : Option Value}, s1.heap.IsCell c v → h₁.IsCell c v := fun ⟨o, ho, hd⟩ => ⟨o, kp _ _ ho, hd⟩
  refine ⟨⟨e0.mod, L.kind, rfl, rfl, Nat.le_refl _, C.inj, fun y hy => ?_, fun y c z _ => ?_, fun _ => hd, Around.frames_deeper e0.frames, .inr ⟨rfl, rfl⟩, fun b z => absurd z (noA b), e0.bs, e0.bsz, fun b _ _ => noA b, fun b z => absurd z (noA b), e0.funs, e0.frf⟩,
    rfl, e0.bare, Un.kept kp, ⟨m, hns, fun i y v e1 e2 e3 => ?_⟩, fun y c e => ?_, e0.hok.fresh (Nat.le_refl _), fun y c e => (C.cell y c e).2, fun q hq => absurd (show q ∈ ([] : List (Addr × Obj)) ++ [] from hq) (by simp), e0.hok.kept kp, hl⟩
  · have hy : scope.names.lookup y = some .cell ∨ scope.names.lookup y = some .free := hy
    rcases hy with hy | hy
    · exact absurd rfl (L.nocell _ (PySem.mem_of_lookup hy))
    · exact C.has y hy
  · have z : false = true := z
    cases z
  · have e3 : Vis scope y := e3
    rcases e3 with k | k | k
    · exact absurd k (L.own y (List.mem_of_getElem? e1))
    · exact absurd rfl (L.nocell _ (PySem.mem_of_lookup k))
    · obtain ⟨c, w, h2, r, z⟩ := C.val i y v e1 e2 k
      exact ⟨w, r, .inr ⟨.inr k, c, h2, st z⟩⟩
  · obtain ⟨⟨v, z⟩, _⟩ := C.cell y c e
    exact ⟨v, st z⟩
end
/-- how a kept lambda binds its parameters: none, or one by its default -/
def BindL (params : Arguments) (body : Expr) (scope : Scope) (hd : Bool) : Prop := match hd with
  | false => ∀ (q : Str) (cl : List (Str × Addr)) (pm cdv ct : Value), bindArgs (mlFn q params body scope cl .none pm cdv ct) ⟨[], []⟩ = pure []
  | true => ∃ a : Str, scope.names.lookup a = some .local ∧ ∀ (q : Str) (cl : List (Str × Addr)) (T : Addr) (pm cdv ct : Value), ∃ k, bindArgs (mlFn q params body scope cl (.ref T) pm cdv ct) ⟨[], []⟩ = seqItems? (.ref T) >>= k ∧ ∀ v, k (some #[v]) = pure [(a, v)]
section
variable {X : Cx} {σ : L2.St} {H : Hp} {s : Shared}
/-- x(), in the def that got the lambda -/
theorem pe_actV {CXg : CXT} {Eg : XK} {Ng : List Str} {qg : Str} {sg : Scope} {g f c' : Addr} {cdg dV pm ctv : Value} {params : Arguments} {body : Expr} {scope : Scope} {k i : Nat} {a : Str} {pn : List (Addr × Obj)} {xe : Value → Shared → Prop} {W : WX} {E : XK} {tb : TE} {p1 p2 : Pos} {d : Option V} {hd : Bool}
    (L : Lam1 X.N X.env.scope scope) (C : Cap X.N σ scope (cloFrom X.env.cells scope.names []) H s.heap) (hl : σ.length = X.N.length) (hbind : BindL params body scope hd) (hdd : d.isSome = hd)
    (tk : Takes ((cxOf CXg X.prog X.w X.K X.mg X.base Ng qg sg g cdg X.A X.stack s H Eg).tr pn xe) W) (hW : ∀ cls d σ' H', E cls d H' → W cls d σ' H') (hr : Room (k + 1) (X.A.deeper (envOfC qg sg s.heap.objs.size g cdg)))
    (hbody : ∀ (A : Around) (outer : List PySem.Env) (s : Shared) (H : Hp), Room k (A.deeper (lamEnv X scope s.heap.objs.size f c')) → PE (lamCx X A outer s H E scope f c') body tb)
    (hN : Ng[i]? = some a) (hv : Vis sg a) (hda : (a == ("__debug__" : Str)) = false := by decide) (hcd : (a == ("__classdict__" : Str)) = false := by decide) :
    PE ((cxOf CXg X.prog X.w X.K X.mg X.base Ng qg sg g cdg X.A X.stack s H Eg).tr pn xe) (.Call (.Name a p1) [] [] p2)
      (fun σZ HZ Q => σZ[i]? = some (some (.ref f)) ∧ HZ c' = some (CodeO c' (X.env.qual ++ "<lambda>")) ∧ (HZ f = some (LamO f (mlObj (X.env.qual ++ "<lambda>") params body scope (cloFrom X.env.cells scope.names []) dV pm c' ctv)) ∧ ((d = none ∧ dV = .none) ∨ ∃ T x, d = some x ∧ dV = .ref T ∧ HZ T = some (.tup [x]))) ∧ tb σ HZ Q) := by
  refine ⟨fun pinsZ sZ σZ HZ Q IZ h => ?_⟩
  obtain ⟨hs, hc, ⟨hfo, hdv⟩, ht⟩ := h
  refine wpAny_Call_Name_kw (thn ((pe_var (pos := p1) (i := i) hN hv hda hcd).run pinsZ sZ σZ HZ (fun v H1 => v = .ref f ∧ H1 = HZ) IZ ⟨.ref f, hs, rfl, rfl⟩) fun u s1 ⟨v, H1, I1, r1, ev, eH⟩ => ?_)
  subst ev
  rw [eH] at I1
  obtain rfl : u = Value.ref f := r1
  have of1 : s1.heap.get? f = some (mlObj (X.env.qual ++ "<lambda>") params body scope (cloFrom X.env.cells scope.names []) dV pm c' ctv) := by
    have z : ObjOk X.prog X.w HZ s1.heap f (.ext fun h => h.get? f = some (mlObj (X.env.qual ++ "<lambda>") params body scope (cloFrom X.env.cells scope.names []) dV pm c' ctv)) := I1.hok f _ hfo
    exact z.1
  refine PySem.W.callWith_F0 ⟨_, _, _, _, of1⟩ ?_
  have un : Un (frs X.stack) [] H HZ s.heap s1.heap := I1.base
  have C1 := C.un un fun _ _ _ => by simp
  obtain ⟨⟨oc, vs, t, hoc, hdc, hvc⟩, _, _⟩ := I1.hok c' _ hc
  have rc : codeAny (model X.prog X.w) (X.A.deeper (envOfC qg sg s.heap.objs.size g cdg)) (.call (.ref f) ⟨[], []⟩) (CR (L2.CX X.prog X.w) (envOfC qg sg s.heap.objs.size g cdg :: X.stack) X.prog X.w HZ s1 Q E) s1 := by
    refine PySem.W.kla_callFunE hr.depth of1 rfl L.co L.gen rfl ⟨c', oc, vs, t, rfl, hoc, hdc, hvc⟩ ?_
    have go : ∀ binds : List (Str × Value), (∀ y ∈ binds, scope.names.lookup y.1 = some .local) → wpAny (model X.prog X.w) (X.A.deeper (envOfC qg sg s.heap.objs.size g cdg)).in1 (newFunctionEnv scope mainGlobals (cloFrom X.env.cells scope.names []) binds (X.env.qual ++ "<lambda>" ++ ".<locals>.") (some f) (.ref c') none builtinsNs)
        (fun env s₂ => s₂.heap.NoLimit ∧ codeAny (model X.prog X.w) (X.A.deeper (envOfC qg sg s.heap.objs.size g cdg)) (.expr body env) (CR (L2.CX X.prog X.w) (envOfC qg sg s.heap.objs.size g cdg :: X.stack) X.prog X.w HZ s1 Q E) s₂) (fun e s' => CR (L2.CX X.prog X.w) (envOfC qg sg s.heap.objs.size g cdg :: X.stack) X.prog X.w HZ s1 Q E (.error e) s') s1 := fun binds hb => by
      refine wpAny_newFunctionEnv (fun y hy => L.nocell y hy) hb (fun h₁ hns hsb => ⟨I1.nolimit.fresh _ hsb, ?_⟩) L.kind
      show codeAny _ _ (.expr body (lamEnv X scope s1.heap.objs.size f c')) _ _
      have kp : ∀ b o, s1.heap.get? b = some o → h₁.get? b = some o := fun b o e => hsb.extBut b o (Nat.ne_of_lt (Heap.lt_size e)) (Heap.get?_push_of_some _ e)
      have J : L2.Inv (lamCx X (X.A.deeper (envOfC qg sg s.heap.objs.size g cdg)) (envOfC qg sg s.heap.objs.size g cdg :: X.stack) s1 HZ E scope f c') [] σ HZ { s1 with heap := h₁, toks := s1.toks + binds.length } :=
        lam_startV L C1 hl I1.env0 hr.hd hns kp
      refine PySem.W.kla_codeExpr (wpAny_mono ((hbody _ _ s1 HZ (hr.deeper _)).run [] _ _ HZ Q J ht) (fun v s' hq => ?_) fun e s' hq => hq)
      obtain ⟨w', H', J', rv, q⟩ := hq
      exact ⟨w', H', J'.os, J'.bare, J'.base, J'.hok, rv, q⟩
    rcases hdv with ⟨rfl, rfl⟩ | ⟨T, x, rfl, rfl, hT⟩
    · cases hdd
      rw [show bindArgs (mlFn (X.env.qual ++ "<lambda>") params body scope (cloFrom X.env.cells scope.names []) .none pm (.ref c') ctv) ⟨[], []⟩ = pure [] from hbind _ _ _ _ _]
      exact wpAny_pure (go [] fun y hy => absurd hy (by simp))
    · cases hdd
      obtain ⟨ad, hla, hb⟩ := hbind
      obtain ⟨kk, e1, e2⟩ := hb (X.env.qual ++ "<lambda>") (cloFrom X.env.cells scope.names []) T pm (.ref c') ctv
      obtain ⟨its, r, ⟨o, ho, _, n, hdt⟩, _⟩ := I1.tuple (SqT.of hT)
      rw [e1]
      refine wpAny_bind (wpAny_seqItems ho hdt ?_)
      cases r with
      | cons r1 r2 =>
        cases r2
        rename_i u
        rw [show kk (some [u].toArray) = pure [(ad, u)] from e2 u]
        exact wpAny_pure (go _ fun y hy => by rw [List.mem_singleton.mp hy]; exact hla)
  have hx : Passes (L2.CX X.prog X.w) ((cxOf CXg X.prog X.w X.K X.mg X.base Ng qg sg g cdg X.A X.stack s H Eg).tr pn xe) E := passes_call tk hW
  refine wpAny_call (codeAny_mono rc fun r s' hq => ?_)
  cases r with
  | error e => exact hx pinsZ σZ HZ s1 e s' I1 hq
  | ok fl =>
    cases fl with
    | ret u => exact I1.after hq
    | next => exact False.elim hq
    | brk => exact False.elim hq
    | cont => exact False.elim hq
end
/-- a lambda of the def: how it is written, what it reads -/
structure LK where
  params : Arguments
  body : Expr
  scope : Scope
  hd : Bool
  t : XK → TE
structure LamK (X : Cx) (j : Nat) (l : LK) : Prop where
  nm : Lam1 X.N X.env.scope l.scope
  bind : BindL l.params l.body l.scope l.hd
  body : ∀ (A : Around) (outer : List PySem.Env) (s : Shared) (H : Hp) (E : XK) (f c' : Addr), Room j (A.deeper (lamEnv X l.scope s.heap.objs.size f c')) → PE (lamCx X A outer s H E l.scope f c') l.body (l.t E)
/-- _law_try(e), e one of the lambdas ls -/
def tTv (X : Cx) (c : Addr) (ls : List LK) (te : TE) (σ : L2.St) : TE := fun σ' H Q => tCons te tNil σ' H fun vs H1 => ∃ (f : Addr) (l : LK) (d : Option V), vs = [.ref f] ∧ l ∈ ls ∧ d.isSome = l.hd ∧ LamAt (linf X l.params l.body l.scope) d H1 f ∧ TTry X.K c (fun E H' Q' => l.t E σ H' Q') H1 Q
theorem pe_Tv {X : Cx} {pins : List (Addr × Obj)} {σ : L2.St} {H3 : Hp} {s3 : Shared} {scB : Scope} {ce : PySem.Env} {fp : List Addr} {k j : Nat} {c : Addr} {ls : List LK} {e : Expr} {te : TE} {p pos : Pos} (I3 : L2.Inv X pins σ H3 s3) (hfp : ∀ b ∈ fp, FpOk X pins H3 b)
    (G : GoodT X.prog X.w X.K X.mg X.base k c) (hg : Gl (X.blk s3 H3 scB ce fp) "_law_try") (hr : Room (k + 1) X.A) (hj : j + 1 ≤ k) (hls : ∀ l ∈ ls, LamK X j l) (he : PE (X.blk s3 H3 scB ce fp) e te)
    (hst : starEach [e] ce = (false, eval e ce) :: starEach [] ce := by rfl) (hpl : (backTo pos (starEach [] ce)).any (·.1) = false := by rfl) :
    PE (X.blk s3 H3 scB ce fp) (.Call (.Name "_law_try" p) [e] [] pos) (tTv X c ls te σ) := by
  obtain ⟨oc, dV, kV, doc, pm, cdv, ct, an, od, osl, pg, bg, sg, lk, hcg, hb, S, hk, hm, hG⟩ := G
  have hva : Vis sg "ask" := by
    rcases S.par "ask" (by decide) with k | k
    · exact .inl k
    · exact .inr (.inl k)
  refine ⟨fun pinsB sB σB HB Q IB h => ?_⟩
  refine wpAny_Call_Name_kw (ld_glob IB hg hm ?_ (by decide))
  refine PySem.W.callWith_K (h₀ := X.base) IB.ok.mod.kin hk (thn ((pa_cons he pa_nil hst).run pos pinsB sB σB HB _ IB h) fun us s1 hh => ?_) hst hpl
  obtain ⟨vs, H1, I1, r, f, l, d, rfl, hl, hdd, hla, htt⟩ := hh
  refine ⟨I1.kIn, ?_⟩
  obtain ⟨c', dV', pm', ctv, hf, hco, hdv⟩ := hla
  cases r with
  | cons r1 r2 =>
    cases r2
    rename_i u
    obtain rfl : u = Value.ref f := r1
    have K1 := hls l hl
    have C1 : Cap X.N σ l.scope (cloFrom X.env.cells l.scope.names []) H1 s1.heap := (Cap.of I3 K1.nm).un I1.base fun y c hc hm => by
      have := (hfp c hm).2.2.2.2.1 y c (cm_of K1.nm I3.ok hc)
      exact this rfl
    have rc : codeAny (model X.prog X.w) X.A (.call (.ref (He.ga X.K "_law_try")) ⟨[.ref f], []⟩) (CR C8.CX0 X.stack X.prog X.w H1 s1 Q C8.E0) s1 := by
      refine run_ofS (N := ["ask", "e"]) (ps := ["ask"]) (us := [.ref f]) (vs := [.ref f]) lk hcg S hr I1.env0 (hb s1 [.ref f] I1.kIn rfl) (.cons rfl .nil) rfl fun hr' => ?_
      have act := fun (W : WX) (pn : List (Addr × Obj)) (xe : Value → Shared → Prop) (E : XK) (p1 p2 : Pos) tk hW => pe_actV (X := X) (σ := σ) (H := H1) (s := s1) (CXg := C8.CX0) (Eg := C8.E0) (Ng := ["ask", "e"]) (qg := "_law_try") (sg := sg) (g := He.ga X.K "_law_try") (cdg := cdv) (i := 0) (a := "ask") (f := f) (c' := c') (dV := dV') (pm := pm') (ctv := ctv) (k := j) (d := d) (hd := l.hd) (pn := pn) (xe := xe) (W := W) (E := E) (p1 := p1) (p2 := p2) (tb := l.t E)
        K1.nm C1 I3.len K1.bind hdd tk hW (hr'.mono (by omega)) (fun A outer s H hr2 => K1.body A outer s H E f c' hr2) rfl hva
      obtain ⟨t', ht', hq'⟩ := hG (X.blk s3 H3 scB ce fp) (X.env.qual ++ "<lambda>") rfl rfl rfl rfl rfl hr f c' s1 H1 Q (fun E HZ Q' => (HZ f = some (LamO f (mlObj (X.env.qual ++ "<lambda>") l.params l.body l.scope (cloFrom X.env.cells l.scope.names []) dV' pm' c' ctv)) ∧ ((d = none ∧ dV' = .none) ∨ ∃ T x, d = some x ∧ dV' = .ref T ∧ HZ T = some (.tup [x]))) ∧ l.t E σ HZ Q') act hco ⟨⟨hf, hdv⟩, htt⟩
      exact ⟨t', ht'.nox, hq'⟩
    refine wpAny_call (codeAny_mono rc fun r s2 hq => ?_)
    cases r with
    | error e => exact (show False from hq).elim
    | ok fl =>
      cases fl with
      | ret u => exact I1.after hq
      | next => exact False.elim hq
      | brk => exact False.elim hq
      | cont => exact False.elim hq
/-! places in a text -/
def forBody : Stmt → List Stmt
  | .For _ _ b _ _ => b
  | _ => []
def binL : Expr → Expr
  | .BinOp l _ _ _ => l
  | e => e
def binR : Expr → Expr
  | .BinOp _ _ r _ => r
  | e => e
def listEl : Expr → Nat → Expr
  | .List es _, i => es.getD i (.Constant .none 0 ⟨0, 0, 0, 0⟩)
  | e, _ => e
def lamP : Expr → Arguments
  | .Lambda a _ _ _ => a
  | _ => default
def lamB : Expr → Expr
  | .Lambda _ b _ _ => b
  | e => e
def lamS : Expr → Scope
  | .Lambda _ _ s _ => s
  | _ => default
theorem LamK.mk' {X : Cx} {j : Nat} {p : Expr} {hd : Bool} {t : XK → TE} (nm : Lam1 X.N X.env.scope (lamS p)) (bind : BindL (lamP p) (lamB p) (lamS p) hd)
    (body : ∀ (A : Around) (outer : List PySem.Env) (s : Shared) (H : Hp) (E : XK) (f c' : Addr), Room j (A.deeper (lamEnv X (lamS p) s.heap.objs.size f c')) → PE (lamCx X A outer s H E (lamS p) f c') (lamB p) (t E)) : LamK X j ⟨lamP p, lamB p, lamS p, hd, t⟩ := ⟨nm, bind, body⟩
theorem lks_nil {X : Cx} {j : Nat} : ∀ l ∈ ([] : List LK), LamK X j l := fun _ z => absurd z List.not_mem_nil
theorem lks_cons {X : Cx} {j : Nat} {l : LK} {ls : List LK} (h : LamK X j l) (t : ∀ l ∈ ls, LamK X j l) : ∀ x ∈ l :: ls, LamK X j x := List.forall_mem_cons.mpr ⟨h, t⟩
end Bx

-- imports HandS.Defaults
/-! f(k = v, ..) without positional values, the rest by defaults -/
namespace Bx
open PySem PySem.Spec PyProof.Rows L2
section
variable {X : Cx} {CX : CXT} {k : Nat} {ps ks : List Str} {sp : Sp} {E : XK} {x : Str} {p pos : Pos} {kws : List Keyword} {tk : TA} {gV : List V → List V → List V}
theorem pe_GN0 (F : GoodN X.prog X.w X.K X.mg X.base CX k x 0 ks ps gV sp) (hr : Room k X.A) (hg : Gl X x) (hx : Passes CX X E)
    (hkw : PK X kws tk) (hall : (backToKw pos (keywordEach kws X.env)).all (·.1.isSome) = true := by rfl) (hks : (backToKw pos (keywordEach kws X.env)).filterMap (·.1) = ks := by rfl)
    (hdb : (x == ("__debug__" : Str)) = false := by decide) (hpl : ((backTo pos (starEach [] X.env)).any (·.1) || (backToKw pos (keywordEach kws X.env)).any (·.1.isNone)) = false := by rfl) :
    PE X (.Call (.Name x p) [] kws pos) (fun σ H Q => tk σ H fun zs H1 => zs.length = ks.length ∧ sp (gV [] zs) H1 Q E) := by
  obtain ⟨fd, F, ⟨g, hb⟩, kp, m⟩ := F
  refine ⟨fun pins s σ H Q I h => ?_⟩
  refine wpAny_Call_Name_kw (ld_glob I hg m ?_ hdb)
  refine PySem.W.callWith_KW0 (h₀ := X.base) I.ok.mod.kin kp hall (thn (hkw.run pos pins s σ H _ I h) fun ws s2 ⟨zs, H2, I2, rz, q2⟩ => ⟨I2.kIn, ?_⟩) hpl
  rw [hks, List.append_nil]
  exact run_fnN F hr hb hx I2 .nil rz rfl q2.1 q2.2
end
end Bx

-- needs pairs
namespace Bx
open PySem PySem.Spec PyProof.Rows L2
/-- the letters as a text -/
def sgn (l : List Bool) : Str := ⟨(l.map fun b => if b then 88 else 89).toArray⟩
theorem sgn_nil : sgn [] = ("" : Str) := by decide +kernel
theorem sgn_x (l : List Bool) : sgn l ++ ("X" : Str) = sgn (l ++ [true]) := by
  have e : ("X" : Str) = ⟨#[88]⟩ := by decide +kernel
  rw [e]
  show Str.append _ _ = _
  unfold Str.append sgn
  simp
theorem sgn_y (l : List Bool) : sgn l ++ ("Y" : Str) = sgn (l ++ [false]) := by
  have e : ("Y" : Str) = ⟨#[89]⟩ := by decide +kernel
  rw [e]
  show Str.append _ _ = _
  unfold Str.append sgn
  simp
theorem sgn_len (l : List Bool) : (sgn l).length = l.length := by
  show (List.toArray _).size = _
  simp
end Bx

-- needs lists
namespace Bx
open PySem PySem.Spec PyProof.Rows L2
/-- a text n times -/
def rep (z : Str) (n : Nat) : Str := ⟨((List.replicate n z.cps.toList).flatten).toArray⟩
theorem foldl_app : ∀ (n : Nat) (a acc : Array Nat), (List.replicate n a).foldl (· ++ ·) acc = acc ++ ((List.replicate n a.toList).flatten).toArray
  | 0, _, acc => by simp
  | n + 1, a, acc => by
    rw [List.replicate_succ, List.foldl_cons, foldl_app n a, List.replicate_succ, List.flatten_cons]
    apply Array.ext'
    simp
theorem rep_mul (z : Str) (n : Int) : PySem.Txt.mul z n = rep z n.toNat := by
  unfold PySem.Txt.mul
  by_cases h : n < 1
  · rw [if_pos h, show n.toNat = 0 by omega]
    rfl
  · rw [if_neg h]
    by_cases h2 : (n == 1 || z.length == 0) = true
    · rw [if_pos h2]
      rcases Bool.or_eq_true_iff.mp h2 with e | e
      · have e1 : n = 1 := eq_of_beq e
        subst e1
        unfold rep
        simp
      · have e1 : z.length = 0 := eq_of_beq e
        have e2 : z.cps = #[] := Array.eq_empty_of_size_eq_zero e1
        have e3 : ∀ m : Nat, (List.replicate m ([] : List Nat)).flatten = [] := fun m => by induction m with
          | zero => rfl
          | succ m ih => rw [List.replicate_succ, List.flatten_cons, ih]; rfl
        unfold rep
        rw [e2]
        show z = ⟨((List.replicate n.toNat ([] : List Nat)).flatten).toArray⟩
        rw [e3]
        cases z
        simp at e2
        rw [e2]
    · rw [if_neg h2]
      unfold rep
      rw [foldl_app]
      simp
theorem op_mul_str {X : Cx} : OpR X (binaryOp .Mult) (fun x y H Q => ∃ (z : Str) (n : Int), x = .str z ∧ y = .int n ∧ 0 ≤ n ∧ n ≤ 1000000 ∧ z.length * n.toNat ≤ 1000000 ∧ Q (.str (rep z n.toNat)) H) := by
  intro pins s σ H x y v u Q I rx ry h
  obtain ⟨z, n, rfl, rfl, h0, h1, h2, q⟩ := h
  obtain ⟨t, rfl⟩ := rx
  obtain ⟨t', rfl⟩ := ry
  refine PySem.SB.mul ⟨?_, fun c _ => ?_, fun c _ => ?_⟩ fun t2 k => ⟨.str (rep z n.toNat), H, I.tok _, ⟨t2, by rw [rep_mul]⟩, q⟩
  · rw [decide_eq_false (by omega), decide_eq_false (by omega)]
    rfl
  · have e : (z.length : Int) * n ≤ 2 ^ 63 - 1 := by
      have e1 : ((z.length * n.toNat : Nat) : Int) = (z.length : Int) * n := by
        rw [Int.natCast_mul, show ((n.toNat : Nat) : Int) = n by omega]
      have e2 : ((z.length * n.toNat : Nat) : Int) ≤ 1000000 := by omega
      omega
    have := (Int.le_ediv_iff_mul_le (by omega : (0 : Int) < n)).mpr e
    omega
  · unfold Builtin.Str.tooLong
    exact decide_eq_false (by rw [sizeLine_eq]; omega)
end Bx

-- needs signs strmul
namespace Bx
open PySem PySem.Spec PyProof.Rows L2
theorem dm_rest {x y : Nat} (h : 0 < y) (h2 : x > y) : x - (x - 1) / y * y ≤ y := by
  have e : (x - 1) / y * y + (x - 1) % y = x - 1 := by rw [Nat.mul_comm]; exact Nat.div_add_mod _ _
  have m : (x - 1) % y < y := Nat.mod_lt _ h
  omega
/-- the first run's letter -/
theorem R_head {x y : Nat} {r : Bool × Nat} (h : (R x y)[0]? = some r) : 0 < x ∧ 0 < y ∧ x ≠ y ∧ (r.1 = true ↔ x > y) := by
  by_cases c : 0 < x ∧ 0 < y ∧ x ≠ y
  · refine ⟨c.1, c.2.1, c.2.2, ?_⟩
    by_cases c2 : x > y
    · rw [R_x c.2.1 c2] at h
      cases h
      exact ⟨fun _ => c2, fun _ => rfl⟩
    · rw [R_y c.1 (by omega)] at h
      cases h
      exact ⟨fun q => (by cases q), fun q => absurd q c2⟩
  · rw [R_nil c] at h
    cases h
theorem R_alt (x y : Nat) : ∀ (i : Nat) (r s : Bool × Nat), (R x y)[i]? = some r → (R x y)[i + 1]? = some s → r.1 ≠ s.1 := by
  intro i r s h1 h2
  by_cases c : 0 < x ∧ 0 < y ∧ x ≠ y
  · by_cases c2 : x > y
    · have d := dm_lt c.2.1 c2
      rw [R_x c.2.1 c2] at h1 h2
      rw [List.getElem?_cons_succ] at h2
      cases i with
      | zero =>
        cases h1
        have q := R_head h2
        have q2 := dm_rest c.2.1 c2
        intro e
        have := q.2.2.2.mp e.symm
        omega
      | succ i =>
        rw [List.getElem?_cons_succ] at h1
        exact R_alt _ y i r s h1 h2
    · have c3 : y > x := by omega
      have d := dm_lt c.1 c3
      rw [R_y c.1 c3] at h1 h2
      rw [List.getElem?_cons_succ] at h2
      cases i with
      | zero =>
        cases h1
        have q := R_head h2
        have q2 := dm_rest c.1 c3
        intro e
        have e2 : s.1 = false := e.symm
        have : ¬ (x > y - (y - 1) / x * x) := fun z => by
          have := q.2.2.2.mpr z
          rw [e2] at this
          cases this
        omega
      | succ i =>
        rw [List.getElem?_cons_succ] at h1
        exact R_alt x _ i r s h1 h2
  · rw [R_nil c] at h1
    cases h1
termination_by x + y
/-- texts one behind another -/
theorem glue_fold : ∀ (ps : List Str) (acc : Array Nat), ps.foldl (fun acc p => acc ++ (#[] : Array Nat) ++ p.cps) acc = acc ++ ((ps.map fun p => p.cps.toList).flatten).toArray
  | [], acc => by simp
  | p :: ps, acc => by
    rw [List.foldl_cons, glue_fold ps, List.map_cons, List.flatten_cons]
    apply Array.ext'
    simp
theorem join_empty (ps : List Str) : PySem.Txt.join (⟨#[]⟩ : Str) ps = ⟨((ps.map fun p => p.cps.toList).flatten).toArray⟩ := by
  show (⟨(ps.drop 1).foldl (fun acc p => acc ++ (#[] : Array Nat) ++ p.cps) (ps.headD Str.empty).cps⟩ : Str) = _
  rw [glue_fold]
  cases ps with
  | nil => rfl
  | cons p ps =>
    congr 1
    apply Array.ext'
    simp
theorem rep_let (c : Bool) (n : Nat) : (rep (letS c) n).cps.toList = (List.replicate n c).map fun b => if b then 88 else 89 := by
  have e : (letS c).cps.toList = [if c then 88 else 89] := by
    cases c
    · decide +kernel
    · decide +kernel
  unfold rep
  rw [e]
  show (List.replicate n [if c = true then 88 else 89]).flatten = _
  induction n with
  | zero => rfl
  | succ n ih => rw [List.replicate_succ, List.flatten_cons, ih, List.replicate_succ]; rfl
theorem join_runs (l : List (Bool × Nat)) : PySem.Txt.join (⟨#[]⟩ : Str) (l.map fun r => rep (letS r.1) r.2) = sgn (spell l) := by
  rw [join_empty]
  show _ = (⟨_⟩ : Str)
  congr 2
  induction l with
  | nil => rfl
  | cons r l ih =>
    rw [List.map_cons, List.map_cons, List.flatten_cons, ih, rep_let]
    show _ = (List.replicate r.2 r.1 ++ spell l).map _
    rw [List.map_append]
theorem rep_len (c : Bool) (n : Nat) : (rep (letS c) n).length = n := by
  have e := congrArg List.length (rep_let c n)
  rw [List.length_map, List.length_replicate] at e
  exact e
theorem rep_lens (l : List (Bool × Nat)) : ((l.map fun r => rep (letS r.1) r.2).map (·.length)).sum = (spell l).length := by
  rw [spell_len, List.map_map]
  congr 1
  apply List.map_congr_left
  intro r _
  exact rep_len r.1 r.2
theorem lets_len (c : Bool) : (letS c).length = 1 := by
  cases c
  · decide +kernel
  · decide +kernel
/-- one run's count is among the letters -/
theorem run_le {l : List (Bool × Nat)} {i : Nat} {r : Bool × Nat} (h : l[i]? = some r) : r.2 ≤ (spell l).length := by
  rw [spell_len]
  have := List.mem_of_getElem? h
  induction l generalizing i with
  | nil => cases this
  | cons a l ih =>
    rw [List.map_cons, List.sum_cons]
    rcases List.mem_cons.mp this with e | e
    · rw [e]; omega
    · obtain ⟨j, hj⟩ := List.getElem?_of_mem e
      have := ih hj e
      omega
end Bx

-- needs build pairs spell
/-! the pair of a pair's own runs -/
namespace Bx
open PySem PySem.Spec PyProof.Rows L2
theorem R_ind {P : Nat → Nat → Prop} (h0 : ∀ x y, ¬ (0 < x ∧ 0 < y ∧ x ≠ y) → P x y) (hx : ∀ x y, 0 < y → x > y → P (x - (x - 1) / y * y) y → P x y) (hy : ∀ x y, 0 < x → y > x → P x (y - (y - 1) / x * x) → P x y) : ∀ (n x y : Nat), x + y ≤ n → P x y := by
  intro n
  induction n with
  | zero => exact fun x y h => h0 x y (by omega)
  | succ n ih =>
    intro x y h
    by_cases c : 0 < x ∧ 0 < y ∧ x ≠ y
    · by_cases c2 : x > y
      · have d := dm_lt c.2.1 c2
        exact hx x y c.2.1 c2 (ih _ _ (by omega))
      · have d := dm_lt (x := y) (y := x) c.1 (by omega)
        exact hy x y c.1 (by omega) (ih _ _ (by omega))
    · exact h0 x y c
theorem cut_back {x y : Nat} (hy : 0 < y) (h : x > y) : x - (x - 1) / y * y + (x - 1) / y * y = x ∧ x - (x - 1) / y * y ≤ y ∧ 1 ≤ (x - 1) / y := by
  have h1 := dm_le x y
  have h2 := Nat.div_add_mod (x - 1) y
  have h3 := Nat.mod_lt (x - 1) hy
  have h4 : y * ((x - 1) / y) = (x - 1) / y * y := Nat.mul_comm _ _
  exact ⟨by omega, by omega, Nat.div_pos (by omega) hy⟩
theorem buildP_R (x y : Nat) : 0 < x → 0 < y → buildP (Nat.gcd x y) (R x y) = (x, y) := by
  refine R_ind (P := fun x y => 0 < x → 0 < y → buildP (Nat.gcd x y) (R x y) = (x, y)) (fun x y c a b => ?_) (fun x y hy c ih a b => ?_) (fun x y hx c ih a b => ?_) (x + y) x y (Nat.le_refl _)
  · have e : x = y := by omega
    subst e
    rw [R_nil c, Nat.gcd_self]
    rfl
  · have d := dm_lt hy c
    obtain ⟨k1, k2, k3⟩ := cut_back hy c
    have ih := ih d.2 b
    have eg : Nat.gcd x y = Nat.gcd (x - (x - 1) / y * y) y := by
      have := Nat.gcd_add_mul_right_left y (x - (x - 1) / y * y) ((x - 1) / y)
      rw [k1] at this
      exact this
    rw [R_x hy c, eg]
    show ((buildP _ (R _ y)).1 + (x - 1) / y * (buildP _ (R _ y)).2, (buildP _ (R _ y)).2) = (x, y)
    rw [ih, k1]
  · have d := dm_lt (x := y) (y := x) hx c
    obtain ⟨k1, k2, k3⟩ := cut_back (x := y) (y := x) hx c
    have ih := ih a d.2
    have eg : Nat.gcd x y = Nat.gcd x (y - (y - 1) / x * x) := by
      have := Nat.gcd_add_mul_right_left x (y - (y - 1) / x * x) ((y - 1) / x)
      rw [k1] at this
      rw [Nat.gcd_comm x y, this, Nat.gcd_comm]
    rw [R_y hx c, eg]
    show ((buildP _ (R x _)).1, (buildP _ (R x _)).2 + (y - 1) / x * (buildP _ (R x _)).1) = (x, y)
    rw [ih, k1]
theorem AltP_R (x y : Nat) : AltP (R x y) := by
  refine R_ind (P := fun x y => AltP (R x y)) (fun x y c => ?_) (fun x y hy c ih => ?_) (fun x y hx c ih => ?_) (x + y) x y (Nat.le_refl _)
  · rw [R_nil c]; exact True.intro
  · obtain ⟨k1, k2, k3⟩ := cut_back hy c
    rw [R_x hy c]
    refine ⟨k3, fun q hq => ?_, ih⟩
    rw [List.head?_eq_getElem?] at hq
    have := (R_head hq).2.2.2
    intro e
    have := this.mp e
    omega
  · obtain ⟨k1, k2, k3⟩ := cut_back (x := y) (y := x) hx c
    rw [R_y hx c]
    refine ⟨k3, fun q hq => ?_, ih⟩
    rw [List.head?_eq_getElem?] at hq
    obtain ⟨p1, p2, p3, p4⟩ := R_head hq
    intro e
    have : ¬ (x > y - (y - 1) / x * x) := fun z => by
      have := p4.mpr z
      rw [e] at this
      cases this
    omega
theorem R_cnt (x y : Nat) : ∀ r ∈ R x y, r.2 ≤ x + y := by
  refine R_ind (P := fun x y => ∀ r ∈ R x y, r.2 ≤ x + y) (fun x y c => ?_) (fun x y hy c ih => ?_) (fun x y hx c ih => ?_) (x + y) x y (Nat.le_refl _)
  · rw [R_nil c]; exact fun r hr => absurd hr List.not_mem_nil
  · have d := dm_lt hy c
    rw [R_x hy c]
    intro r hr
    rcases List.mem_cons.mp hr with e | e
    · rw [e]
      have : (x - 1) / y ≤ x - 1 := Nat.div_le_self _ _
      show (x - 1) / y ≤ _
      omega
    · have := ih r e
      omega
  · have d := dm_lt (x := y) (y := x) hx c
    rw [R_y hx c]
    intro r hr
    rcases List.mem_cons.mp hr with e | e
    · rw [e]
      have : (y - 1) / x ≤ y - 1 := Nat.div_le_self _ _
      show (y - 1) / x ≤ _
      omega
    · have := ih r e
      omega
theorem buildP_le_drop (g : Nat) : ∀ (l : List (Bool × Nat)) (i : Nat), (buildP g (l.drop i)).1 ≤ (buildP g l).1 ∧ (buildP g (l.drop i)).2 ≤ (buildP g l).2
  | _, 0 => ⟨Nat.le_refl _, Nat.le_refl _⟩
  | [], _ + 1 => ⟨Nat.le_refl _, Nat.le_refl _⟩
  | r :: l, i + 1 => by
    have ih := buildP_le_drop g l i
    show (buildP g (l.drop i)).1 ≤ (if r.1 then _ else _ : Nat × Nat).1 ∧ (buildP g (l.drop i)).2 ≤ (if r.1 then _ else _ : Nat × Nat).2
    split
    · exact ⟨Nat.le_trans ih.1 (Nat.le_add_right _ _), ih.2⟩
    · exact ⟨ih.1, Nat.le_trans ih.2 (Nat.le_add_right _ _)⟩
theorem buildP_scale (g : Nat) : ∀ l : List (Bool × Nat), (buildP g l).1 = g * (buildP 1 l).1 ∧ (buildP g l).2 = g * (buildP 1 l).2
  | [] => ⟨(Nat.mul_one g).symm, (Nat.mul_one g).symm⟩
  | (true, n) :: l => by
    obtain ⟨h1, h2⟩ := buildP_scale g l
    refine ⟨?_, h2⟩
    show (buildP g l).1 + n * (buildP g l).2 = g * ((buildP 1 l).1 + n * (buildP 1 l).2)
    rw [h1, h2, Nat.mul_add, Nat.mul_left_comm]
  | (false, n) :: l => by
    obtain ⟨h1, h2⟩ := buildP_scale g l
    refine ⟨h1, ?_⟩
    show (buildP g l).2 + n * (buildP g l).1 = g * ((buildP 1 l).2 + n * (buildP 1 l).1)
    rw [h1, h2, Nat.mul_add, Nat.mul_left_comm]
theorem buildP_one {x y : Nat} (hx : 0 < x) (hy : 0 < y) : buildP 1 (R x y) = (x / Nat.gcd x y, y / Nat.gcd x y) := by
  have g0 : 0 < Nat.gcd x y := Nat.gcd_pos_of_pos_left y hx
  have e := buildP_R x y hx hy
  obtain ⟨h1, h2⟩ := buildP_scale (Nat.gcd x y) (R x y)
  rw [e] at h1 h2
  have h1 : x = Nat.gcd x y * (buildP 1 (R x y)).1 := h1
  have h2 : y = Nat.gcd x y * (buildP 1 (R x y)).2 := h2
  refine Prod.ext ?_ ?_
  · show _ = x / Nat.gcd x y
    exact (Nat.div_eq_of_eq_mul_right g0 h1).symm
  · show _ = y / Nat.gcd x y
    exact (Nat.div_eq_of_eq_mul_right g0 h2).symm
end Bx

namespace Lw
open PySem PySem.Spec PyProof.Rows L2 Bx
def top (i : Nat) : Stmt := PySem.Challenge.pw_addpath_k03_pairs_of_paths.main.body.getD i (.Pass ⟨0, 0, 0, 0⟩)
abbrev s_is_number : Stmt := top 6
abbrev s_is_run : Stmt := top 10
abbrev s_pair_of_t : Stmt := top 11
abbrev s_pair_of : Stmt := top 11
abbrev s__law_field : Stmt := top 17
abbrev s__law_try : Stmt := top 18
abbrev s__law_pull : Stmt := top 14
abbrev s__law_of : Stmt := top 15
abbrev s__law_same : Stmt := top 16
abbrev s__law_gcd : Stmt := top 19
abbrev s__law_bottom : Stmt := top 22
abbrev s__law_runs : Stmt := top 21
abbrev s__law_far_pair : Stmt := top 23
abbrev s__law_pair : Stmt := top 20
abbrev s__law_bag : Stmt := top 13
abbrev s_law : Stmt := top 24
def d_is_number : He.DefD := ⟨("is_number", none), "is_number", "is_number", defArgs s_is_number, defBody s_is_number, defScope s_is_number, [], []⟩
def d_is_run : He.DefD := ⟨("is_run", none), "is_run", "is_run", defArgs s_is_run, defBody s_is_run, defScope s_is_run, [], []⟩
def d_pair_of_t : He.DefD := ⟨("pair_of", none), "pair_of", "pair_of", defArgs s_pair_of_t, defBody s_pair_of_t, defScope s_pair_of_t, [.str "even"], [("divisor", .int 1)]⟩
def d_pair_of : He.DefD := ⟨("pair_of", none), "pair_of", "pair_of", defArgs s_pair_of, defBody s_pair_of, defScope s_pair_of, [.str "even"], [("divisor", .int 1)]⟩
def d__law_field : He.DefD := ⟨("_law_field", none), "_law_field", "_law_field", defArgs s__law_field, defBody s__law_field, defScope s__law_field, [], []⟩
def d__law_try : He.DefD := ⟨("_law_try", none), "_law_try", "_law_try", defArgs s__law_try, defBody s__law_try, defScope s__law_try, [], []⟩
def d__law_pull : He.DefD := ⟨("_law_pull", none), "_law_pull", "_law_pull", defArgs s__law_pull, defBody s__law_pull, defScope s__law_pull, [], []⟩
def d__law_of : He.DefD := ⟨("_law_of", none), "_law_of", "_law_of", defArgs s__law_of, defBody s__law_of, defScope s__law_of, [], []⟩
def d__law_same : He.DefD := ⟨("_law_same", none), "_law_same", "_law_same", defArgs s__law_same, defBody s__law_same, defScope s__law_same, [], []⟩
def d__law_gcd : He.DefD := ⟨("_law_gcd", none), "_law_gcd", "_law_gcd", defArgs s__law_gcd, defBody s__law_gcd, defScope s__law_gcd, [], []⟩
def d__law_bottom : He.DefD := ⟨("_law_bottom", none), "_law_bottom", "_law_bottom", defArgs s__law_bottom, defBody s__law_bottom, defScope s__law_bottom, [], []⟩
def d__law_runs : He.DefD := ⟨("_law_runs", none), "_law_runs", "_law_runs", defArgs s__law_runs, defBody s__law_runs, defScope s__law_runs, [], []⟩
def d__law_far_pair : He.DefD := ⟨("_law_far_pair", none), "_law_far_pair", "_law_far_pair", defArgs s__law_far_pair, defBody s__law_far_pair, defScope s__law_far_pair, [], []⟩
def d__law_pair : He.DefD := ⟨("_law_pair", none), "_law_pair", "_law_pair", defArgs s__law_pair, defBody s__law_pair, defScope s__law_pair, [], []⟩
def d__law_bag : He.DefD := ⟨("_law_bag", none), "_law_bag", "_law_bag", defArgs s__law_bag, defBody s__law_bag, defScope s__law_bag, [], []⟩
def d_law : He.DefD := ⟨("law", none), "law", "law", defArgs s_law, defBody s_law, defScope s_law, [], []⟩
def fnl : List He.DefD := d_is_number :: d_is_run :: d_pair_of_t :: d_pair_of :: d__law_field :: d__law_try :: d__law_pull :: d__law_of :: d__law_same :: d__law_gcd :: d__law_bottom :: d__law_runs :: d__law_far_pair :: d__law_pair :: d__law_bag :: d_law :: []
def fna : List He5.DefA := []
abbrev sx_InvalidPath : Stmt := inClass (top 3) 0
def dx_InvalidPath : DefS := ⟨"InvalidPath", "InvalidPath.__init__", defArgs sx_InvalidPath, defBody sx_InvalidPath, defScope sx_InvalidPath, "/claim/cut.py"⟩
def fns : List DefS := dx_InvalidPath :: []
def glos : List Str := "is_number" :: "is_run" :: "pair_of" :: "_law_field" :: "_law_try" :: "_law_pull" :: "_law_of" :: "_law_same" :: "_law_gcd" :: "_law_bottom" :: "_law_runs" :: "_law_far_pair" :: "_law_pair" :: "_law_bag" :: "law" :: "PathError" :: "InvalidPath" :: "LETTERS" :: "BOTTOMS" :: []
def frees : List Str := "isinstance" :: "bool" :: "int" :: "len" :: "tuple" :: "any" :: "zip" :: "all" :: "str" :: "list" :: "range" :: "super" :: []
def fal : List He.Fa := glos.map .glo ++ frees.map .free
def exl : List (PySem.W.Frag → Bool) := (fun K => He.tupB K "LETTERS" [(.str "X"), (.str "Y")]) :: (fun K => He.tupB K "BOTTOMS" [(.str "even"), (.str "flat"), (.str "steep")]) :: (fun K => tupN K "LETTERS") :: (fun K => tupN K "BOTTOMS") :: (fun K => decide (PySem.W.exmOne K (.ref (He.ga K "InvalidPath")) (.ref (He.ga K "PathError")) = some true)) :: (fun K => xfB K (He.ga K "InvalidPath")) :: (fun K => He.eqO (PySem.W.findIn K (.ref (He.ga K "InvalidPath")) "tag") (some none)) :: []
def exf (K : PySem.W.Frag) : Bool := exl.all fun f => f K
abbrev En := Env fal fnl fna exf
theorem En.fx {K : PySem.W.Frag} {mg : Str → Option Value} (E : En K mg) (i : Nat) {f : PySem.W.Frag → Bool} (h : exl[i]? = some f := by rfl) : f K = true := List.all_eq_true.mp E.more f (List.mem_of_getElem? h)
theorem ty_LETTERS {K : PySem.W.Frag} {mg : Str → Option Value} (E : En K mg) (H : Hp) : tyV K "tuple" (.ref (He.ga K "LETTERS")) H := tupN_ok (E.fx 2) H
theorem at_LETTERS {K : PySem.W.Frag} {mg : Str → Option Value} (E : En K mg) (H : Hp) : SqT K H (He.ga K "LETTERS") (([(.str "X"), (.str "Y")] : List He.Dv).map (He.Dv.v K)) := He.tupB_ok (E.fx 0) H
theorem ty_BOTTOMS {K : PySem.W.Frag} {mg : Str → Option Value} (E : En K mg) (H : Hp) : tyV K "tuple" (.ref (He.ga K "BOTTOMS")) H := tupN_ok (E.fx 3) H
theorem at_BOTTOMS {K : PySem.W.Frag} {mg : Str → Option Value} (E : En K mg) (H : Hp) : SqT K H (He.ga K "BOTTOMS") (([(.str "even"), (.str "flat"), (.str "steep")] : List He.Dv).map (He.Dv.v K)) := He.tupB_ok (E.fx 1) H
theorem in_glos {x : Str} (h : x ∈ glos) : He.Fa.glo x ∈ fal := (List.mem_append_left _ (List.mem_map_of_mem h))
theorem in_frees {x : Str} (h : x ∈ frees) : He.Fa.free x ∈ fal := (List.mem_append_right _ (List.mem_map_of_mem h))
theorem En.gl {K : PySem.W.Frag} {mg : Str → Option Value} (E : En K mg) (x : Str) (h : x ∈ glos := by decide +kernel) : mg x = some (.ref (He.ga K x)) := Env.glo E x (in_glos h)
theorem En.fr {K : PySem.W.Frag} {mg : Str → Option Value} (E : En K mg) (x : Str) (h : x ∈ frees := by decide +kernel) : mg x = none := Env.free E x (in_frees h)
theorem En.exm_InvalidPath_PathError {K : PySem.W.Frag} {mg : Str → Option Value} (E : En K mg) : PySem.W.exmOne K (.ref (He.ga K "InvalidPath")) (.ref (He.ga K "PathError")) = some true := of_decide_eq_true (E.fx 4)
theorem En.xf_InvalidPath {K : PySem.W.Frag} {mg : Str → Option Value} (E : En K mg) : XfC K (He.ga K "InvalidPath") := xfB_ok (E.fx 5)
theorem En.xno_InvalidPath_tag {K : PySem.W.Frag} {mg : Str → Option Value} (E : En K mg) : PySem.W.findIn K (.ref (He.ga K "InvalidPath")) "tag" = some none := He.eqO_ok (E.fx 6)
section
variable {P : Program} {w : World} {K : PySem.W.Frag} {mg : Str → Option Value} {base : Heap}
/-! ### the exception InvalidPath -/
theorem okx_InvalidPath (E : En K mg) (MP : MainP P "/claim/cut.py") (SS : SaysS fns K) : GoodI P w K mg base CX0 1 (He.ga K "InvalidPath") "InvalidPath" ["self"] (spI0 (He.ga K "InvalidPath") "InvalidPath") := by
  obtain ⟨e, cc⟩ := SS.def_ 0 (d := dx_InvalidPath) rfl
  obtain ⟨kV, doc, pm, ct, an, cd, cl, T, hcd, EX⟩ := DefS.get (d := dx_InvalidPath) MP ⟨_, rfl, rfl⟩ e cc
  refine ⟨_, _, EX, init_ok (N := ["self"]) (ps := ["self"]) (k := 0) (pl := fun _ _ _ => do return (← (pure (some false) : Sem (Option Bool))).getD true) T hcd ⟨rfl, rfl, rfl, by decide, rfl, by decide +kernel, by decide +kernel, by decide +kernel, by rfl, by rfl⟩ (E.fr "super") rfl (by rfl) (fun vs H Q E' h => ?_) (fun A outer s H vs Q E' hr h => ?_) (fun _ => rfl) (fun _ => rfl) (fun _ => rfl) (fun _ => rfl), Binds.all (fun us hl => match us, hl with | [_], _ => rfl), E.gl "InvalidPath"⟩
  · obtain ⟨a, rfl, _⟩ := h; rfl
  obtain ⟨a, rfl, ha, k⟩ := h
  refine ⟨a, _, _, rfl, ha, pa_cons pe_str pa_nil, pss_one (ps_ost (pv 0) pe_str), ?_⟩
  exact ⟨by show 1 ≤ 1000; decide, ha, .ref a, rfl, a, _, rfl, EX.oex, EX.tag, .inl ⟨ha, k⟩⟩

/-! ### is_number -/
/-- by the value's type alone -/
def sp_is_number (K : PySem.W.Frag) : Sp := fun vs H Q _ => ∃ (v : V) (t : String) (b1 b2 : Bool), vs = [v] ∧ TyX K H v (.type t) ∧ kitB t "int" = some b1 ∧ kitB t "bool" = some b2 ∧ Q (.bl (b1 && !b2)) H
theorem sp_number_int {K : PySem.W.Frag} {H : Hp} {Q : VK} {E : XK} {i : Int} (q : Q (.bl true) H) : sp_is_number K [.int i] H Q E := ⟨_, "int", true, false, rfl, .base (.int i), by decide +kernel, by decide +kernel, q⟩

theorem sc_is_number : FnScope ["value"] ["value"] (defScope s_is_number) := ⟨rfl, rfl, rfl, by decide +kernel, rfl, by decide +kernel, by decide +kernel⟩
theorem ok_is_number (E : En K mg) : Good P w K mg base CX0 1 "is_number" ["value"] (sp_is_number K) := by
  obtain ⟨fd, F⟩ := E.says.def_ 0 (d := d_is_number) rfl
  refine ⟨fd, ?_, F.bindsN fun _ _ _ _ _ _ us hl => match us, hl with | [_], _ => rfl, F.kp, E.gl "is_number"⟩
  refine F.ok sc_is_number (fun vs H Q E' h => ?_) (fun cdv A outer s H vs Q E' hr h => ?_)
  · obtain ⟨v, t, b1, b2, rfl, _⟩ := h; rfl
  · have hu64 := hu64_of hr
    refine ⟨_, PSs.nox (pss_one (ps_ret (pe_and (pe_callB call_isi (by rfl) (E.fr "isinstance") (by decide +kernel) (pa_cons (pv 0) (pa_cons (pe_bltn (v := .ty "int") (by rfl) (E.fr "int") (by decide +kernel) rfl) pa_nil))) (pe_one (pe_not (pe_callB call_isi (by rfl) (E.fr "isinstance") (by decide +kernel) (pa_cons (pv 0) (pa_cons (pe_bltn (v := .ty "bool") (by rfl) (E.fr "bool") (by decide +kernel) rfl) pa_nil)))))))), ?_⟩
    obtain ⟨v, t, b1, b2, rfl, T, e1, e2, k⟩ := h
    refine ⟨_, rfl, _, _, _, _, _, rfl, .ty _, T, kit_ty e1, _, rfl, ?_⟩
    cases b1 with
    | false => exact ite_f rfl k
    | true => exact ite_t rfl ⟨_, rfl, _, _, _, _, _, rfl, .ty _, T, kit_ty e2, _, rfl, k⟩

/-! ### is_run -/
def sp_is_run (K : PySem.W.Frag) : Sp := fun vs H Q _ => ∃ (v : V) (d : PyData), vs = [v] ∧ Dp K H v d ∧ runFl d = true ∧ Q (.bl (runOkD d)) H
theorem rn2_0 (a b : V) : atI [a, b] 0 = some a := rfl
theorem rn2_1 (a b : V) : atI [a, b] 1 = some b := rfl

theorem sc_is_run : FnScope ["value"] ["value"] (defScope s_is_run) := ⟨rfl, rfl, rfl, by decide +kernel, rfl, by decide +kernel, by decide +kernel⟩
theorem ok_is_run (E : En K mg) (G_is_number : Good P w K mg base CX0 1 "is_number" ["value"] (sp_is_number K)) : Good P w K mg base CX0 2 "is_run" ["value"] (sp_is_run K) := by
  obtain ⟨fd, F⟩ := E.says.def_ 1 (d := d_is_run) rfl
  refine ⟨fd, ?_, F.bindsN fun _ _ _ _ _ _ us hl => match us, hl with | [_], _ => rfl, F.kp, E.gl "is_run"⟩
  refine F.ok sc_is_run (fun vs H Q E' h => ?_) (fun cdv A outer s H vs Q E' hr h => ?_)
  · obtain ⟨v, d, rfl, _⟩ := h; rfl
  · have hu64 := hu64_of hr
    refine ⟨_, PSs.nox (pss_cons (ps_if (PW.pt (pw_or (pt_not (pt_val (pe_callB call_isi (by rfl) (E.fr "isinstance") (by decide +kernel) (pa_cons (pv 0) (pa_cons (pe_bltn (v := .ty "tuple") (by rfl) (E.fr "tuple") (by decide +kernel) rfl) pa_nil))))) (pw_or (pt_cmpR op_ne (pe_callB call_len_seq (by rfl) (E.fr "len") (by decide +kernel) (pa_cons (pv 0) pa_nil)) pe_int (nomark _)) (pw_or1 (pt_cmpR op_notIn_seq (pe_ix ix_tup (pv 0) pe_int (fun _ _ => rfl)) (pe_glob rfl (E.gl "LETTERS") (show RelV (V.ref (He.ga K "LETTERS")) _ from rfl)) (by rfl))))))
        (pss_one (ps_ret pe_bl))
        pss_nil)
      (pss_one (ps_ret (pe_and (pe_G G_is_number (hr.mono (by decide)) rfl pass0 (pa_cons (pe_ix ix_tup (pv 0) pe_int (fun _ _ => rfl)) pa_nil)) (pe_one (pe_cmpR op_ge (pe_ix ix_tup (pv 0) pe_int (fun _ _ => rfl)) pe_int (nomark _))))))), ?_⟩
    obtain ⟨v, d, rfl, hD, fl, k⟩ := h
    refine ⟨_, rfl, _, _, _, _, _, rfl, .ty _, Dp.tyx hD, kit_ty (kit_tup d), _, rfl, ?_⟩
    cases ht : isTupD d with
    | false =>
      refine ite_t (by rfl) ?_
      rw [show runOkD d = false by cases d <;> first | rfl | cases ht] at k
      exact k
    | true =>
      obtain ⟨a, xs, ds, rfl, rfl, hS, hA⟩ := isTup_of hD ht
      have hl := DpAll.length hA
      refine ite_f (by rfl) ⟨_, rfl, a, _, rfl, .inr hS, rfl, _, rfl, ?_⟩
      by_cases h3 : xs.length = 2
      · obtain ⟨x, y, a1, b1, rfl, rfl, d1, d2⟩ := DpAll.two hA h3
        refine ite_f rfl ⟨_, rfl, a, _, _, _, rfl, rfl, hS, rn2_0 _ _, _, _, rfl, .inr (at_LETTERS E _), flat_of d1 fl, rfl, _, rfl, ?_⟩
        have ei : inV x [V.str "X", V.str "Y"] = inS ["X", "Y"] a1 := inS_of d1 fl ["X", "Y"]
        cases hb : inS ["X", "Y"] a1 with
        | false =>
          refine ite_t (by show (!inV x [V.str "X", V.str "Y"]) = true; rw [ei, hb]; rfl) ?_
          rw [show runOkD (.tuple [a1, b1]) = false by unfold runOkD; dsimp only; rw [hb]; rfl] at k
          exact k
        | true =>
          refine ite_f (by show (!inV x [V.str "X", V.str "Y"]) = false; rw [ei, hb]; rfl) ?_
          rw [show runOkD (.tuple [a1, b1]) = posD b1 by unfold runOkD; dsimp only; rw [hb]; rfl] at k
          refine ⟨_, rfl, a, _, _, _, rfl, rfl, hS, rn2_1 _ _, _, _, _, _, rfl, Dp.tyx d2, kit_int b1, kit_bool b1, _, rfl, ?_⟩
          cases hi : isIntD b1 with
          | false =>
            have e : ((false || isBoolD b1) && !isBoolD b1) = false := by cases isBoolD b1 <;> rfl
            refine ite_f e ?_
            rw [show posD b1 = false by cases b1 <;> first | rfl | cases hi] at k
            exact k
          | true =>
            obtain ⟨i, rfl, rfl⟩ := isInt_of d2 hi
            refine ite_t rfl ⟨_, rfl, a, _, _, _, rfl, rfl, hS, rn2_1 _ _, _, _, rfl, rfl, ?_⟩
            exact k
      · refine ite_t ?_ ?_
        · show (!decide (V.int ((xs.length : Nat) : Int) = V.int 2)) = true
          rw [show decide (V.int ((xs.length : Nat) : Int) = V.int 2) = false from decide_eq_false (fun z => by injection z with z; omega)]
          rfl
        · rw [runOk_len (by rw [← hl]; exact h3)] at k
          exact k

/-! ### pair_of_t -/
def sp_pair_of_t (K : PySem.W.Frag) : Sp := fun vs H Q _ => (∃ (a : Addr) (us : List V) (rs : List (Bool × Nat)) (g : Nat), vs = [.ref a, .str "even", .int (g : Int)] ∧ SqT K H a us ∧ DpAll K H us (rs.map runD) ∧ AltP rs ∧ 1 ≤ g ∧ rs.length ≤ 9000 ∧
  (∀ i, (buildP g (rs.drop i)).1 < 2 ^ 4000 ∧ (buildP g (rs.drop i)).2 < 2 ^ 4000) ∧ (∀ r ∈ rs, r.2 < 2 ^ 4000) ∧ ∀ (v : V) (H' : Hp), Same H H' → PairAt K H' v (buildP g rs).1 (buildP g rs).2 → Q v H') ∨
  ∃ (a : Addr) (f : Bool) (g : Nat), vs = [.ref a, .str (if f then "flat" else "steep"), .int (g : Int)] ∧ SqT K H a [] ∧ 1 ≤ g ∧ ∀ (v : V) (H' : Hp), Same H H' → PairAt K H' v (if f then g else 0) (if f then 0 else g) → Q v H'
theorem letS_neT : ∀ {c1 c2 : Bool}, c1 ≠ c2 → decide (V.str (letS c1) = V.str (letS c2)) = false := by
  intro c1 c2 h
  cases c1 <;> cases c2 <;> first | exact absurd rfl h | decide +kernel
theorem buildPo_atT {rs : List (Bool × Nat)} {us : List V} {K : PySem.W.Frag} {H : Hp} (h : DpAll K H us (rs.map runD)) {i : Nat} {z : V} (hz : us[i]? = some z) : ∃ r, rs[i]? = some r ∧ ∃ p, z = .ref p ∧ SqT K H p [.str (letS r.1), .int ((r.2 : Nat) : Int)] := by
  obtain ⟨c, n, p, hr, e, hp⟩ := run_get h hz
  exact ⟨(c, n), hr, p, e, hp⟩

theorem sc_pair_of_t : FnScope ["runs", "bottom", "divisor", "run", "one", "other", "x", "y", "letter", "count"] ["runs", "bottom", "divisor"] (defScope s_pair_of_t) := ⟨rfl, rfl, rfl, by decide +kernel, rfl, by decide +kernel, by decide +kernel⟩
theorem ok_pair_of_t (E : En K mg) (G_is_run : Good P w K mg base CX0 2 "is_run" ["value"] (sp_is_run K)) (G_is_number : Good P w K mg base CX0 1 "is_number" ["value"] (sp_is_number K)) : GoodN P w K mg base CX0 3 "pair_of" 1 ["divisor", "bottom"] ["runs", "bottom", "divisor"] (fun vs zs => vs ++ zs.reverse) (sp_pair_of_t K) := by
  obtain ⟨fd, F⟩ := E.says.def_ 2 (d := d_pair_of_t) rfl
  refine ⟨fd, ?_, ?_, F.kp, E.gl "pair_of"⟩
  rotate_left
  · obtain ⟨its, mv, hb⟩ := F.kbinds (ps := ["runs", "bottom", "divisor"]) 1 ["divisor", "bottom"] [] (fun {α : Type} (us ds mz zs : List α) => us ++ (mz ++ zs.reverse)) (fun z => by cases z) (fun z => by cases z) (fun q hq => by cases hq)
      (fun r1 r2 r3 r4 => r1.append (r3.append r4.reverse))
      (fun T D doc pm an cdv ct us its mv ws l1 l2 l3 l4 => match us, its, mv, ws, l1, l2, l3, l4 with | [_], [_], [], [_, _], _, _, _, _ => ⟨_, rfl, rfl⟩)
    exact ⟨_, hb⟩
  refine F.ok sc_pair_of_t (fun vs H Q E' h => ?_) (fun cdv A outer s H vs Q E' hr h => ?_)
  · rcases h with ⟨a, us, rs, g, rfl, _⟩ | ⟨a, f, g, rfl, _⟩ <;> rfl
  · have hu64 := hu64_of hr
    refine ⟨_, PSs.nox (pss_cons (ps_if (PW.pt (pw_or (pt_cmpR op_notIn_seq (pv 1) (pe_glob rfl (E.gl "BOTTOMS") (show RelV (V.ref (He.ga K "BOTTOMS")) _ from rfl)) (by rfl)) (pw_or (pt_not (pt_val (pe_G G_is_number (hr.mono (by decide)) rfl pass0 (pa_cons (pv 2) pa_nil)))) (pw_or (pt_cmpR op_lt (pv 2) pe_int (nomark _)) (pw_or1 (pt_not (pt_val (pe_callB (cr_all rfl) (by rfl) (E.fr "all") (by decide +kernel) (pa_cons (pe_lc (own := [("run", 3)]) (by rfl) sc_pair_of_t.nd (pi_tup (pv 0)) (blkOk_by (N := ["runs", "bottom", "divisor", "run", "one", "other", "x", "y", "letter", "count"]) (sc := defScope s_pair_of_t) (by decide +kernel)) (by exact fun _ _ _ _ _ => (pg_name (i := 3) sc_pair_of_t.nd rfl (by first | exact Or.inl rfl | exact Or.inr rfl))) (by exact fun _ _ _ _ _ => pts_nil) (by exact fun _ _ _ _ _ => (pe_G G_is_run (hr.mono (by decide)) rfl pass0 (pa_cons (pv 3) pa_nil)))) pa_nil)))))))))
        (pss_one ps_never)
        pss_nil)
      (pss_cons (ps_if (PW.pt (pw_or (pt_val (pe_callB (cr_any rfl) (by rfl) (E.fr "any") (by decide +kernel) (pa_cons (pe_lc (own := [("one", 4), ("other", 5)]) (by rfl) sc_pair_of_t.nd (RZ.pi_zipA (by rfl) (E.fr "zip") (pa_cons (pv 0) (pa_cons (pe_slice (show SlR _ (rSlA K) from sl_tupA) (pv 0) (po_some pe_int) po_none) pa_nil))) (blkOk_by (N := ["runs", "bottom", "divisor", "run", "one", "other", "x", "y", "letter", "count"]) (sc := defScope s_pair_of_t) (by decide +kernel)) (by exact fun _ _ _ _ _ => (show PG _ _ (gTup K 2 _) from pg_tup (n := 2) rfl (pgs_cons (pg_name (i := 4) sc_pair_of_t.nd rfl (by first | exact Or.inl rfl | exact Or.inr rfl)) (pgs_cons (pg_name (i := 5) sc_pair_of_t.nd rfl (by first | exact Or.inl rfl | exact Or.inr rfl)) pgs_nil)))) (by exact fun _ _ _ _ _ => pts_nil) (by exact fun _ _ _ _ _ => (pe_cmpR op_eq (pe_ix (show IxR _ (rIxT K) from ix_tup) (pv 4) pe_int (fun _ _ => rfl)) (pe_ix (show IxR _ (rIxT K) from ix_tup) (pv 5) pe_int (fun _ _ => rfl)) (nomark _)))) pa_nil))) (pw_or1 (PW.pt (pw_and (pt_cmpR op_ne (pv 1) pe_str (nomark _)) (pw_and1 (pt_cmpR op_gt (pe_callB call_len_seq (by rfl) (E.fr "len") (by decide +kernel) (pa_cons (pv 0) pa_nil)) pe_int (nomark _))))))))
        (pss_one ps_never)
        pss_nil)
      (pss_cons (ps_set (i := 6) sc_pair_of_t.nd rfl (by first | exact Or.inl rfl | exact Or.inr rfl) (pe_ifExp (pt_cmpR op_eq (pv 1) pe_str (nomark _)) pe_int (pv 2)))
      (pss_cons (ps_set (i := 7) sc_pair_of_t.nd rfl (by first | exact Or.inl rfl | exact Or.inr rfl) (pe_ifExp (pt_cmpR op_eq (pv 1) pe_str (nomark _)) pe_int (pv 2)))
      (pss_cons (ps_for PassesOwn.never rfl (pi_tup (pe_revTn (pv 0))) (pg_tup rfl (pgs_cons (pg_name (i := 8) sc_pair_of_t.nd rfl (by first | exact Or.inl rfl | exact Or.inr rfl)) (pgs_cons (pg_name (i := 9) sc_pair_of_t.nd rfl (by first | exact Or.inl rfl | exact Or.inr rfl)) pgs_nil)))
        (pss_one (ps_if (pt_cmpR op_eq (pv 8) pe_str (nomark _))
        (pss_one (ps_aug (i := 6) sc_pair_of_t.nd rfl (by first | exact Or.inl rfl | exact Or.inr rfl) (pe_op op_mulW (pv 9) (pv 7)) ip_add))
        (pss_one (ps_aug (i := 7) sc_pair_of_t.nd rfl (by first | exact Or.inl rfl | exact Or.inr rfl) (pe_op op_mulW (pv 9) (pv 6)) ip_add)))))
      (pss_one (ps_ret (pe_tup (pa_cons (pv 6) (pa_cons (pv 7) pa_nil)))))))))), ?_⟩
    rcases h with ⟨a, us, rs, g, rfl, hA, hD, alt, hg, hln, hbd, hcnt, k⟩ | ⟨a, f, g, rfl, hA, hg, k⟩
    rotate_left
    · cases f
      · -- steep
        refine ⟨_, rfl, _, _, rfl, .inr (at_BOTTOMS E _), rfl, rfl, _, rfl, ?_⟩
        refine ite_f (by show (!inV (V.str "steep") [V.str "even", V.str "flat", V.str "steep"]) = false; decide +kernel) ?_
        refine ⟨_, rfl, _, "int", true, false, rfl, .base (.int _), by decide +kernel, by decide +kernel, _, rfl, ?_⟩
        refine ite_f rfl ⟨_, rfl, _, _, rfl, rfl, _, rfl, ?_⟩
        refine ite_f (decide_eq_false (by omega)) ?_
        refine ⟨_, rfl, a, rfl, ⟨_, hA⟩, fun D hD0 => ?_⟩
        refine lc_tup (K := K) (a := a) (xs := []) (fun i H' => Same H H' ∧ H' D = some (.lst ((List.replicate i true).map V.bl))) ⟨same_new hD0, upd_same⟩ (fun i H' _ q => seqT q.1 hA) (fun i z H1 hz => by cases hz) ?_
        rintro H1 ⟨e1, g1⟩
        refine ⟨D, _, rfl, SqL.of g1, true, ?_, ite_f rfl ?_⟩
        · rfl
        have hA1 := seqT e1 hA
        refine ⟨_, rfl, _, rfl, 1, rfl, ?_⟩
        dsimp only [tNoPart]
        refine slA_any hA1 fun p H1b e2 hp => ?_
        refine ⟨a, p, [], cutV [] (some 1) none, rfl, .inr ⟨seqT e2 hA1, hp, fun D2 hD2 => ?_⟩⟩
        refine lc_it (walk_zipTT (n := 0) rfl) (fun i H' => Same H1b H' ∧ H' D2 = some (.lst (List.replicate i (V.bl false)))) ⟨same_new hD2, upd_same⟩ (fun i H' _ q => ⟨seqT (e2.trans q.1) hA1, seqT q.1 hp⟩) (fun i z H3 H4 hi => by omega) ?_
        rintro H3 ⟨e3, g3⟩
        refine ⟨D2, [], rfl, SqL.of g3, false, rfl, ite_f rfl ?_⟩
        have e03 := (e1.trans e2).trans e3
        refine ⟨_, rfl, rfl, _, rfl, ?_⟩
        refine ite_t (by decide +kernel) ⟨_, rfl, _, _, rfl, .inr (seqT e03 hA), _, _, rfl, rfl, _, rfl, ?_⟩
        refine ite_f (by decide) ?_
        refine ⟨_, rfl, rfl, _, rfl, ite_t (by decide +kernel) ?_⟩
        refine ⟨_, rfl, rfl, _, rfl, ite_f (by decide +kernel) ⟨_, rfl, ?_⟩⟩
        refine ⟨_, rfl, a, [], rfl, seqT e03 hA, fun l hl => ?_⟩
        have e4 : Same H (upd H3 l (.tup [])) := e03.trans (same_new hl)
        have hL : (upd H3 l (.tup [])) l = some (.tup []) := upd_same
        refine ⟨l, rfl, ⟨_, SqT.of hL⟩, for_tup (K := K) (a := l) (xs := []) (fun i σ H' => σ = [some (.ref a), some (.str "steep"), some (.int (g : Int)), none, none, none, some (.int ((0 : Nat) : Int)), some (.int ((g : Nat) : Int)), none, none] ∧ Same (upd H3 l (.tup [])) H')
          ⟨rfl, Same.refl _⟩ (fun i σ H' _ ⟨_, e⟩ => SqT.of (e _ _ hL)) (fun i z σ H5 hz => by cases hz) ?_⟩
        rintro σ H5 ⟨rfl, e5⟩
        refine ⟨_, rfl, _, rfl, (by show 2 ≤ sizeLine; decide), fun p hp => ?_⟩
        exact k _ _ ((e4.trans e5).trans (same_new hp)) ⟨p, rfl, SqT.of upd_same⟩
      · -- flat
        refine ⟨_, rfl, _, _, rfl, .inr (at_BOTTOMS E _), rfl, rfl, _, rfl, ?_⟩
        refine ite_f (by show (!inV (V.str "flat") [V.str "even", V.str "flat", V.str "steep"]) = false; decide +kernel) ?_
        refine ⟨_, rfl, _, "int", true, false, rfl, .base (.int _), by decide +kernel, by decide +kernel, _, rfl, ?_⟩
        refine ite_f rfl ⟨_, rfl, _, _, rfl, rfl, _, rfl, ?_⟩
        refine ite_f (decide_eq_false (by omega)) ?_
        refine ⟨_, rfl, a, rfl, ⟨_, hA⟩, fun D hD0 => ?_⟩
        refine lc_tup (K := K) (a := a) (xs := []) (fun i H' => Same H H' ∧ H' D = some (.lst ((List.replicate i true).map V.bl))) ⟨same_new hD0, upd_same⟩ (fun i H' _ q => seqT q.1 hA) (fun i z H1 hz => by cases hz) ?_
        rintro H1 ⟨e1, g1⟩
        refine ⟨D, _, rfl, SqL.of g1, true, ?_, ite_f rfl ?_⟩
        · rfl
        have hA1 := seqT e1 hA
        refine ⟨_, rfl, _, rfl, 1, rfl, ?_⟩
        dsimp only [tNoPart]
        refine slA_any hA1 fun p H1b e2 hp => ?_
        refine ⟨a, p, [], cutV [] (some 1) none, rfl, .inr ⟨seqT e2 hA1, hp, fun D2 hD2 => ?_⟩⟩
        refine lc_it (walk_zipTT (n := 0) rfl) (fun i H' => Same H1b H' ∧ H' D2 = some (.lst (List.replicate i (V.bl false)))) ⟨same_new hD2, upd_same⟩ (fun i H' _ q => ⟨seqT (e2.trans q.1) hA1, seqT q.1 hp⟩) (fun i z H3 H4 hi => by omega) ?_
        rintro H3 ⟨e3, g3⟩
        refine ⟨D2, [], rfl, SqL.of g3, false, rfl, ite_f rfl ?_⟩
        have e03 := (e1.trans e2).trans e3
        refine ⟨_, rfl, rfl, _, rfl, ?_⟩
        refine ite_t (by decide +kernel) ⟨_, rfl, _, _, rfl, .inr (seqT e03 hA), _, _, rfl, rfl, _, rfl, ?_⟩
        refine ite_f (by decide) ?_
        refine ⟨_, rfl, rfl, _, rfl, ite_f (by decide +kernel) ⟨_, rfl, ?_⟩⟩
        refine ⟨_, rfl, rfl, _, rfl, ite_t (by decide +kernel) ?_⟩
        refine ⟨_, rfl, a, [], rfl, seqT e03 hA, fun l hl => ?_⟩
        have e4 : Same H (upd H3 l (.tup [])) := e03.trans (same_new hl)
        have hL : (upd H3 l (.tup [])) l = some (.tup []) := upd_same
        refine ⟨l, rfl, ⟨_, SqT.of hL⟩, for_tup (K := K) (a := l) (xs := []) (fun i σ H' => σ = [some (.ref a), some (.str "flat"), some (.int (g : Int)), none, none, none, some (.int ((g : Nat) : Int)), some (.int ((0 : Nat) : Int)), none, none] ∧ Same (upd H3 l (.tup [])) H')
          ⟨rfl, Same.refl _⟩ (fun i σ H' _ ⟨_, e⟩ => SqT.of (e _ _ hL)) (fun i z σ H5 hz => by cases hz) ?_⟩
        rintro σ H5 ⟨rfl, e5⟩
        refine ⟨_, rfl, _, rfl, (by show 2 ≤ sizeLine; decide), fun p hp => ?_⟩
        exact k _ _ ((e4.trans e5).trans (same_new hp)) ⟨p, rfl, SqT.of upd_same⟩
    have hul := DpAll.length hD
    rw [List.length_map] at hul
    -- bottom not in BOTTOMS or not is_number(divisor) or divisor < 1 or not all(..)
    refine ⟨_, rfl, _, _, rfl, .inr (at_BOTTOMS E _), rfl, rfl, _, rfl, ?_⟩
    refine ite_f (by show (!inV (V.str "even") [V.str "even", V.str "flat", V.str "steep"]) = false; decide +kernel) ?_
    refine ⟨_, rfl, _, "int", true, false, rfl, .base (.int _), by decide +kernel, by decide +kernel, _, rfl, ?_⟩
    refine ite_f rfl ⟨_, rfl, _, _, rfl, rfl, _, rfl, ?_⟩
    refine ite_f (decide_eq_false (by omega)) ?_
    refine ⟨_, rfl, a, rfl, ⟨_, hA⟩, fun D hD0 => ?_⟩
    refine lc_tup (K := K) (a := a) (xs := us) (fun i H' => Same H H' ∧ H' D = some (.lst ((List.replicate i true).map V.bl))) ⟨same_new hD0, upd_same⟩ (fun i H' _ q => seqT q.1 hA) ?_ ?_
    · rintro i z H1 hz ⟨e1, g1⟩
      obtain ⟨r, hr, p, rfl, hp⟩ := buildPo_atT (Dp.sameAll e1 hD) hz
      have hi : i < us.length := (List.getElem?_eq_some_iff.mp hz).1
      have er : runOkD (runD r) = true := by rw [runOk_run]; exact decide_eq_true (alt.pos r (List.mem_of_getElem? hr))
      refine ⟨rfl, _, rfl, .ref p, runD r, rfl, .tup hp (.cons (.str _) (.cons (.int _) .nil)), rfl, ?_⟩
      rw [er]
      refine ⟨_, g1, ?_, same_mut e1 hD0, ?_⟩
      · rw [List.length_map, List.length_replicate]
        exact szl (by omega)
      · rw [upd_same, List.replicate_succ', List.map_append]
        rfl
    rintro H1 ⟨e1, g1⟩
    refine ⟨D, _, rfl, SqL.of g1, true, ?_, ite_f rfl ?_⟩
    · rw [show (List.replicate us.length true).all id = true by simp]
    have hA1 := seqT e1 hA
    -- any([one[0] == other[0] ..]) or (bottom != 'even' and ..)
    refine ⟨_, rfl, _, rfl, 1, rfl, ?_⟩
    dsimp only [tNoPart]
    refine slA_any hA1 fun p H1b e2 hp => ?_
    refine ⟨a, p, us, cutV us (some 1) none, rfl, .inr ⟨seqT e2 hA1, hp, fun D2 hD2 => ?_⟩⟩
    refine lc_it (walk_zipTT rfl) (fun i H' => Same H1b H' ∧ H' D2 = some (.lst (List.replicate i (V.bl false)))) ⟨same_new hD2, upd_same⟩ (fun i H' _ q => ⟨seqT (e2.trans q.1) hA1, seqT q.1 hp⟩) ?_ ?_
    · rintro i z H3 H4 hi ⟨e3, g3⟩ ⟨T, z1, z2, rfl, hT, rfl, q1, q2⟩
      dsimp only at q1 q2
      rw [cut_from1, List.getElem?_drop] at q2
      have e4 := (e1.trans e2).trans (e3.trans (same_new (o := .tup [z1, z2]) hT))
      obtain ⟨r1, hr1, p1, rfl, hp1⟩ := buildPo_atT (Dp.sameAll e4 hD) q1
      obtain ⟨r2, hr2, p2, rfl, hp2⟩ := buildPo_atT (Dp.sameAll e4 hD) q2
      rw [Nat.add_comm] at hr2
      have ne := alt.next i _ _ hr1 hr2
      have nT : D2 ≠ T := ne_of_none g3 hT
      have hil : i < us.length := (List.getElem?_eq_some_iff.mp q1).1
      refine ⟨T, _, rfl, SqT.of upd_same, rfl, _, _, rfl, _, _, rfl, rfl, rfl, ?_⟩
      refine ⟨_, rfl, p1, _, _, _, rfl, rfl, hp1, rfl, _, rfl, p2, _, _, _, rfl, rfl, hp2, rfl, rfl, ?_⟩
      have ev : decide (V.str (letS r1.1) = V.str (letS r2.1)) = false := by
        exact letS_neT ne
      rw [ev]
      refine ⟨_, (by rw [upd_ne nT]; exact g3), ?_, same_mut (e3.trans (same_new hT)) hD2, ?_⟩
      · rw [List.length_replicate]
        exact szl (by omega)
      · rw [upd_same, List.replicate_succ']
    rintro H3 ⟨e3, g3⟩
    refine ⟨D2, List.replicate _ false, rfl, SqL.of (by rw [List.map_replicate]; exact g3), false, ?_, ite_f rfl ?_⟩
    · rw [show (List.replicate _ false).any id = false by simp]
    refine ⟨_, rfl, rfl, _, rfl, ?_⟩
    refine ite_f (by decide +kernel) (ite_f rfl ?_)
    -- x, y
    refine ⟨_, rfl, rfl, _, rfl, ite_f (by decide +kernel) ⟨_, rfl, ?_⟩⟩
    refine ⟨_, rfl, rfl, _, rfl, ite_f (by decide +kernel) ⟨_, rfl, ?_⟩⟩
    have e03 := (e1.trans e2).trans e3
    -- for letter, count in runs[::-1]
    refine ⟨_, rfl, a, us, rfl, seqT e03 hA, fun l hl => ?_⟩
    have e4 : Same H (upd H3 l (.tup us.reverse)) := e03.trans (same_new hl)
    have hL : (upd H3 l (.tup us.reverse)) l = some (.tup us.reverse) := upd_same
    generalize upd H3 l (.tup us.reverse) = H4 at *
    refine ⟨l, rfl, ⟨_, SqT.of hL⟩, for_tup (K := K) (a := l) (xs := us.reverse) (fun i σ H' => ∃ s7 s8 : Option V, σ = [some (.ref a), some (.str "even"), some (.int (g : Int)), none, none, none, some (.int (((buildP g (rs.drop (rs.length - i))).1 : Nat) : Int)), some (.int (((buildP g (rs.drop (rs.length - i))).2 : Nat) : Int)), s7, s8] ∧ Same H4 H')
      ⟨_, _, by rw [Nat.sub_zero, List.drop_length]; rfl, Same.refl _⟩ (fun i σ H' _ ⟨_, _, _, e⟩ => SqT.of (e _ _ hL)) ?_ ?_⟩
    · rintro i z σ H5 hz ⟨_, _, rfl, e5⟩
      have hi : i < us.length := by
        have := (List.getElem?_eq_some_iff.mp hz).1
        rw [List.length_reverse] at this
        exact this
      rw [List.getElem?_reverse hi] at hz
      obtain ⟨r, hr, p, rfl, hp⟩ := buildPo_atT (Dp.sameAll (e4.trans e5) hD) hz
      have ei : us.length - 1 - i = rs.length - (i + 1) := by omega
      rw [ei] at hr
      have bd := buildP_drop (g := g) hr
      rw [show rs.length - (i + 1) + 1 = rs.length - i by omega] at bd
      have b0 := hbd (rs.length - i)
      have b1 := hbd (rs.length - (i + 1))
      have hc := hcnt r (List.mem_of_getElem? hr)
      rw [bd] at b1 ⊢
      generalize buildP g (rs.drop (rs.length - i)) = q at *
      obtain ⟨x, y⟩ := q
      obtain ⟨c, n⟩ := r
      dsimp only at *
      refine ⟨p, _, rfl, hp, rfl, _, _, rfl, _, _, rfl, rfl, ?_⟩
      refine ⟨_, rfl, rfl, _, rfl, ?_⟩
      cases c
      · refine ite_f (by show decide (V.str "Y" = V.str "X") = false; decide +kernel) ?_
        refine ⟨_, rfl, _, rfl, _, rfl, _, _, rfl, rfl, okMul hc b0.1, _, _, rfl, rfl, some (.str (letS false)), some (.int (n : Int)), ?_, e5⟩
        rw [if_neg Bool.false_ne_true]
        rfl
      · refine ite_t (by show decide (V.str "X" = V.str "X") = true; decide +kernel) ?_
        refine ⟨_, rfl, _, rfl, _, rfl, _, _, rfl, rfl, okMul hc b0.2, _, _, rfl, rfl, some (.str (letS true)), some (.int (n : Int)), ?_, e5⟩
        rw [if_pos rfl]
        rfl
    · rintro σ H5 ⟨_, _, rfl, e5⟩
      rw [List.length_reverse, hul, Nat.sub_self, List.drop_zero]
      refine ⟨_, rfl, _, rfl, (by show 2 ≤ sizeLine; decide), fun p hp => ?_⟩
      exact k _ _ ((e4.trans e5).trans (same_new hp)) ⟨p, rfl, SqT.of upd_same⟩

/-! ### pair_of -/
def baseS : List Str := ["even", "flat", "steep"]
/-- the equal neighbours -/
def adjB : List (Bool × Nat) → Bool
  | [] => false
  | r :: l => (match l with | [] => false | q :: _ => decide (r.1 = q.1)) || adjB l
def sp_pair_of (K : PySem.W.Frag) : Sp := fun vs H Q E =>
  (∃ (a : Addr) (us : List V) (rs : List (Bool × Nat)) (g : Nat), vs = [.ref a, .str "even", .int (g : Int)] ∧ SqL K H a us ∧ DpAll K H us (rs.map runD) ∧ AltP rs ∧ 1 ≤ g ∧ rs.length ≤ 9000 ∧
    (∀ i, (buildP g (rs.drop i)).1 < 2 ^ 4000 ∧ (buildP g (rs.drop i)).2 < 2 ^ 4000) ∧ (∀ r ∈ rs, r.2 < 2 ^ 4000) ∧ ∀ (v : V) (H' : Hp), Same H H' → PairAt K H' v (buildP g rs).1 (buildP g rs).2 → Q v H') ∨
  (∃ (a : Addr) (f : Bool) (g : Nat), vs = [.ref a, .str (if f then "flat" else "steep"), .int (g : Int)] ∧ SqL K H a [] ∧ 1 ≤ g ∧ ∀ (v : V) (H' : Hp), Same H H' → PairAt K H' v (if f then g else 0) (if f then 0 else g) → Q v H') ∨
  (∃ (a : Addr) (us : List V) (vb vg : V) (ds : List PyData) (db dg : PyData), vs = [.ref a, vb, vg] ∧ SqL K H a us ∧ DpAll K H us ds ∧ Dp K H vb db ∧ Dp K H vg dg ∧ flatPD db = true ∧ (∀ d ∈ ds, runFl d = true) ∧ us.length ≤ 9000 ∧
    (inS baseS db && (posD dg && ds.all runOkD)) = false ∧ ∀ (H' : Hp) (d : Addr), Same H H' → H' d = none → E (.ref (He.ga K "InvalidPath")) (some d) (upd H' d (.xd [("tag", .str "InvalidPath")]))) ∨
  ∃ (a : Addr) (us : List V) (w : Str) (rs : List (Bool × Nat)) (g : Nat), vs = [.ref a, .str w, .int (g : Int)] ∧ SqL K H a us ∧ DpAll K H us (rs.map runD) ∧ (∀ r ∈ rs, 1 ≤ r.2) ∧ 1 ≤ g ∧ rs.length ≤ 9000 ∧ inS baseS (.str w) = true ∧
    (adjB rs || (!decide (V.str w = V.str "even") && decide (0 < rs.length))) = true ∧ ∀ (H' : Hp) (d : Addr), Same H H' → H' d = none → E (.ref (He.ga K "InvalidPath")) (some d) (upd H' d (.xd [("tag", .str "InvalidPath")]))
theorem letS_ne : ∀ {c1 c2 : Bool}, c1 ≠ c2 → decide (V.str (letS c1) = V.str (letS c2)) = false := by
  intro c1 c2 h
  cases c1 <;> cases c2 <;> first | exact absurd rfl h | decide +kernel
theorem buildPo_at {rs : List (Bool × Nat)} {us : List V} {K : PySem.W.Frag} {H : Hp} (h : DpAll K H us (rs.map runD)) {i : Nat} {z : V} (hz : us[i]? = some z) : ∃ r, rs[i]? = some r ∧ ∃ p, z = .ref p ∧ SqT K H p [.str (letS r.1), .int ((r.2 : Nat) : Int)] := by
  obtain ⟨c, n, p, hr, e, hp⟩ := run_get h hz
  exact ⟨(c, n), hr, p, e, hp⟩
def adjL : List (Bool × Nat) → List Bool
  | [] => []
  | r :: l => match l with | [] => [] | q :: _ => decide (r.1 = q.1) :: adjL l
theorem adjL_any : ∀ l : List (Bool × Nat), (adjL l).any id = adjB l
  | [] => rfl
  | [_] => rfl
  | r :: q :: l => by
    show (decide (r.1 = q.1) || (adjL (q :: l)).any id) = (decide (r.1 = q.1) || adjB (q :: l))
    rw [adjL_any (q :: l)]
theorem adjL_len : ∀ l : List (Bool × Nat), (adjL l).length = l.length - 1
  | [] => rfl
  | [_] => rfl
  | r :: q :: l => by
    show (adjL (q :: l)).length + 1 = _
    rw [adjL_len (q :: l)]
    rfl
theorem adjL_at : ∀ {l : List (Bool × Nat)} {i : Nat} {r q : Bool × Nat}, l[i]? = some r → l[i + 1]? = some q → (adjL l)[i]? = some (decide (r.1 = q.1))
  | [], _, _, _, h, _ => by cases h
  | [_], _, _, _, _, h => by cases h
  | a :: b :: l, 0, r, q, h1, h2 => by
    cases h1
    cases h2
    rfl
  | a :: b :: l, i + 1, r, q, h1, h2 => adjL_at (l := b :: l) h1 h2
theorem letS_eq {c1 c2 : Bool} : decide (V.str (letS c1) = V.str (letS c2)) = decide (c1 = c2) := by
  cases c1 <;> cases c2 <;> decide +kernel

theorem sc_pair_of : FnScope ["runs", "bottom", "divisor", "run", "one", "other", "x", "y", "letter", "count"] ["runs", "bottom", "divisor"] (defScope s_pair_of) := ⟨rfl, rfl, rfl, by decide +kernel, rfl, by decide +kernel, by decide +kernel⟩
theorem ok_pair_of (E : En K mg) (G_is_run : Good P w K mg base CX0 2 "is_run" ["value"] (sp_is_run K)) (G_is_number : Good P w K mg base CX0 1 "is_number" ["value"] (sp_is_number K)) (X_InvalidPath : GoodI P w K mg base CX0 1 (He.ga K "InvalidPath") "InvalidPath" ["self"] (spI0 (He.ga K "InvalidPath") "InvalidPath")) : GoodN P w K mg base (L2.CX P w) 3 "pair_of" 1 ["divisor"] ["runs", "bottom", "divisor"] (fun vs zs => vs ++ ([V.str "even"] ++ ([] ++ zs))) (sp_pair_of K) ∧ GoodN P w K mg base (L2.CX P w) 3 "pair_of" 2 ["divisor"] ["runs", "bottom", "divisor"] (fun vs zs => vs ++ ([] ++ zs)) (sp_pair_of K) ∧ GoodN P w K mg base (L2.CX P w) 3 "pair_of" 1 [] ["runs", "bottom", "divisor"] (fun vs zs => vs ++ ([V.str "even"] ++ ([V.int 1] ++ zs))) (sp_pair_of K) ∧ GoodN P w K mg base (L2.CX P w) 3 "pair_of" 0 ["runs"] ["runs", "bottom", "divisor"] (fun vs zs => zs ++ ([V.str "even"] ++ [V.int 1])) (sp_pair_of K) := by
  obtain ⟨fd, F⟩ := E.says.def_ 3 (d := d_pair_of) rfl
  suffices ok : FnOk P w K mg base (L2.CX P w) 3 (He.ga K "pair_of") fd ["runs", "bottom", "divisor"] (sp_pair_of K) by
    refine ⟨⟨fd, ok, ?_, F.kp, E.gl "pair_of"⟩, ⟨fd, ok, ?_, F.kp, E.gl "pair_of"⟩, ⟨fd, ok, ?_, F.kp, E.gl "pair_of"⟩, ⟨fd, ok, ?_, F.kp, E.gl "pair_of"⟩⟩
    · obtain ⟨its, mv, hb⟩ := F.kbinds (ps := ["runs", "bottom", "divisor"]) 1 ["divisor"] [] (fun {α : Type} (us ds mz zs : List α) => us ++ (ds ++ (mz ++ zs))) (fun z => by cases z) (fun z => by cases z) (fun q hq => by cases hq)
        (fun r1 r2 r3 r4 => r1.append (r2.append (r3.append r4)))
        (fun T D doc pm an cdv ct us its mv ws l1 l2 l3 l4 => match us, its, mv, ws, l1, l2, l3, l4 with | [_], [_], [], [_], _, _, _, _ => ⟨_, rfl, rfl⟩)
      exact ⟨_, hb⟩
    · obtain ⟨its, mv, hb⟩ := F.kbinds (ps := ["runs", "bottom", "divisor"]) 2 ["divisor"] [] (fun {α : Type} (us ds mz zs : List α) => us ++ (mz ++ zs)) (fun z => by cases z) (fun z => by cases z) (fun q hq => by cases hq)
        (fun r1 r2 r3 r4 => r1.append (r3.append r4))
        (fun T D doc pm an cdv ct us its mv ws l1 l2 l3 l4 => match us, its, mv, ws, l1, l2, l3, l4 with | [_, _], [_], [], [_], _, _, _, _ => ⟨_, rfl, rfl⟩)
      exact ⟨_, hb⟩
    · obtain ⟨its, mv, hb⟩ := F.kbinds (ps := ["runs", "bottom", "divisor"]) 1 [] [("divisor", .int 1)] (fun {α : Type} (us ds mz zs : List α) => us ++ (ds ++ (mz ++ zs))) (fun z => by cases z) (fun z => by cases z) (fun q hq => hq)
        (fun r1 r2 r3 r4 => r1.append (r2.append (r3.append r4)))
        (fun T D doc pm an cdv ct us its mv ws l1 l2 l3 l4 => match us, its, mv, ws, l1, l2, l3, l4 with | [_], [_], [_], [], _, _, _, _ => ⟨_, rfl, ⟨_, _, _, _, _, _, rfl, rfl, rfl⟩⟩)
      exact ⟨_, hb⟩
    · obtain ⟨its, mv, hb⟩ := F.kbinds (ps := ["runs", "bottom", "divisor"]) 0 ["runs"] [("divisor", .int 1)] (fun {α : Type} (us ds mz zs : List α) => zs ++ (ds ++ mz)) (fun z => by cases z) (fun z => by cases z) (fun q hq => hq)
        (fun r1 r2 r3 r4 => r4.append (r2.append r3))
        (fun T D doc pm an cdv ct us its mv ws l1 l2 l3 l4 => match us, its, mv, ws, l1, l2, l3, l4 with | [], [_], [_], [_], _, _, _, _ => ⟨_, rfl, ⟨_, _, _, _, _, _, rfl, rfl, rfl⟩⟩)
      exact ⟨_, hb⟩
  refine F.ok sc_pair_of (fun vs H Q E' h => ?_) (fun cdv A outer s H vs Q E' hr h => ?_)
  · rcases h with ⟨a, us, rs, g, rfl, _⟩ | ⟨a, f, g, rfl, _⟩ | ⟨a, us, vb, vg, ds, db, dg, rfl, _⟩ | ⟨a, us, w, rs, g, rfl, _⟩ <;> rfl
  · have hu64 := hu64_of hr
    refine ⟨_, (pss_cons (ps_if (PW.pt (pw_or (pt_cmpR op_notIn_seq (pv 1) (pe_glob rfl (E.gl "BOTTOMS") (show RelV (V.ref (He.ga K "BOTTOMS")) _ from rfl)) (by rfl)) (pw_or (pt_not (pt_val (pe_G G_is_number (hr.mono (by decide)) rfl pass0 (pa_cons (pv 2) pa_nil)))) (pw_or (pt_cmpR op_lt (pv 2) pe_int (nomark _)) (pw_or1 (pt_not (pt_val (pe_callB (cr_all rfl) (by rfl) (E.fr "all") (by decide +kernel) (pa_cons (pe_lc (own := [("run", 3)]) (by rfl) sc_pair_of.nd (pi_list (pv 0)) (blkOk_by (N := ["runs", "bottom", "divisor", "run", "one", "other", "x", "y", "letter", "count"]) (sc := defScope s_pair_of) (by decide +kernel)) (by exact fun _ _ _ _ _ => (pg_name (i := 3) sc_pair_of.nd rfl (by first | exact Or.inl rfl | exact Or.inr rfl))) (by exact fun _ _ _ _ _ => pts_nil) (by exact fun _ _ _ _ _ => (pe_G G_is_run (hr.mono (by decide)) rfl pass0 (pa_cons (pv 3) pa_nil)))) pa_nil)))))))))
        (pss_one (ps_raise rfl (takes_of (E := E') rfl rfl rfl rfl) (pmk_0 X_InvalidPath (hr.mono (by decide)) rfl pass0)))
        pss_nil)
      (pss_cons (ps_if (PW.pt (pw_or (pt_val (pe_callB (cr_any rfl) (by rfl) (E.fr "any") (by decide +kernel) (pa_cons (pe_lc (own := [("one", 4), ("other", 5)]) (by rfl) sc_pair_of.nd (RZ.pi_zipA (by rfl) (E.fr "zip") (pa_cons (pv 0) (pa_cons (pe_slice sl_list (pv 0) (po_some pe_int) po_none) pa_nil))) (blkOk_by (N := ["runs", "bottom", "divisor", "run", "one", "other", "x", "y", "letter", "count"]) (sc := defScope s_pair_of) (by decide +kernel)) (by exact fun _ _ _ _ _ => (show PG _ _ (gTup K 2 _) from pg_tup (n := 2) rfl (pgs_cons (pg_name (i := 4) sc_pair_of.nd rfl (by first | exact Or.inl rfl | exact Or.inr rfl)) (pgs_cons (pg_name (i := 5) sc_pair_of.nd rfl (by first | exact Or.inl rfl | exact Or.inr rfl)) pgs_nil)))) (by exact fun _ _ _ _ _ => pts_nil) (by exact fun _ _ _ _ _ => (pe_cmpR op_eq (pe_ix (show IxR _ (rIxT K) from ix_tup) (pv 4) pe_int (fun _ _ => rfl)) (pe_ix (show IxR _ (rIxT K) from ix_tup) (pv 5) pe_int (fun _ _ => rfl)) (nomark _)))) pa_nil))) (pw_or1 (PW.pt (pw_and (pt_cmpR op_ne (pv 1) pe_str (nomark _)) (pw_and1 (pt_cmpR op_gt (pe_callB call_len_seq (by rfl) (E.fr "len") (by decide +kernel) (pa_cons (pv 0) pa_nil)) pe_int (nomark _))))))))
        (pss_one (ps_raise rfl (takes_of (E := E') rfl rfl rfl rfl) (pmk_0 X_InvalidPath (hr.mono (by decide)) rfl pass0)))
        pss_nil)
      (pss_cons (ps_set (i := 6) sc_pair_of.nd rfl (by first | exact Or.inl rfl | exact Or.inr rfl) (pe_ifExp (pt_cmpR op_eq (pv 1) pe_str (nomark _)) pe_int (pv 2)))
      (pss_cons (ps_set (i := 7) sc_pair_of.nd rfl (by first | exact Or.inl rfl | exact Or.inr rfl) (pe_ifExp (pt_cmpR op_eq (pv 1) pe_str (nomark _)) pe_int (pv 2)))
      (pss_cons (ps_for (passes_of rfl) rfl (pi_list (pe_revL (pv 0))) (pg_tup rfl (pgs_cons (pg_name (i := 8) sc_pair_of.nd rfl (by first | exact Or.inl rfl | exact Or.inr rfl)) (pgs_cons (pg_name (i := 9) sc_pair_of.nd rfl (by first | exact Or.inl rfl | exact Or.inr rfl)) pgs_nil)))
        (pss_one (ps_if (pt_cmpR op_eq (pv 8) pe_str (nomark _))
        (pss_one (ps_aug (i := 6) sc_pair_of.nd rfl (by first | exact Or.inl rfl | exact Or.inr rfl) (pe_op op_mulW (pv 9) (pv 7)) ip_add))
        (pss_one (ps_aug (i := 7) sc_pair_of.nd rfl (by first | exact Or.inl rfl | exact Or.inr rfl) (pe_op op_mulW (pv 9) (pv 6)) ip_add)))))
      (pss_one (ps_ret (pe_tup (pa_cons (pv 6) (pa_cons (pv 7) pa_nil)))))))))), ?_⟩
    rcases h with ⟨a, us, rs, g, rfl, hA, hD, alt, hg, hln, hbd, hcnt, k⟩ | ⟨a, f, g, rfl, hA, hg, k⟩ | ⟨a, us, vb, vg, ds, db, dg, rfl, hA, hD, hB, hG, fb, fr, hln, no, k⟩ | ⟨a, us, w, rs, g, rfl, hA, hD, hp1, hg, hln, hw, no, k⟩
    rotate_left
    · cases f
      · -- steep
        refine ⟨_, rfl, _, _, rfl, .inr (at_BOTTOMS E _), rfl, rfl, _, rfl, ?_⟩
        refine ite_f (by show (!inV (V.str "steep") [V.str "even", V.str "flat", V.str "steep"]) = false; decide +kernel) ?_
        refine ⟨_, rfl, _, "int", true, false, rfl, .base (.int _), by decide +kernel, by decide +kernel, _, rfl, ?_⟩
        refine ite_f rfl ⟨_, rfl, _, _, rfl, rfl, _, rfl, ?_⟩
        refine ite_f (decide_eq_false (by omega)) ?_
        refine ⟨_, rfl, a, rfl, ⟨_, hA⟩, fun D hD0 => ?_⟩
        refine lc_list (K := K) (a := a) (xs := []) (fun i H' => Same H H' ∧ H' D = some (.lst ((List.replicate i true).map V.bl))) ⟨same_new hD0, upd_same⟩ (fun i H' _ q => q.1.seq hA) (fun i z H1 hz => by cases hz) ?_
        rintro H1 ⟨e1, g1⟩
        refine ⟨D, _, rfl, SqL.of g1, true, ?_, ite_f rfl ?_⟩
        · rfl
        have hA1 := e1.seq hA
        refine ⟨_, rfl, _, rfl, 1, rfl, a, [], rfl, hA1, fun p hp => ?_⟩
        have e2 := same_new (o := .lst (cutV [] (some 1) none)) hp
        refine ⟨a, p, [], cutV [] (some 1) none, rfl, .inl ⟨e2.seq hA1, SqL.of upd_same, fun D2 hD2 => ?_⟩⟩
        refine lc_it (walk_zip (n := 0) rfl) (fun i H' => Same (upd H1 p (.lst (cutV [] (some 1) none))) H' ∧ H' D2 = some (.lst (List.replicate i (V.bl false)))) ⟨same_new hD2, upd_same⟩ (fun i H' _ q => ⟨(e2.trans q.1).seq hA1, SqL.of (q.1 _ _ upd_same)⟩) (fun i z H3 H4 hi => by omega) ?_
        rintro H3 ⟨e3, g3⟩
        refine ⟨D2, [], rfl, SqL.of g3, false, rfl, ite_f rfl ?_⟩
        have e03 := (e1.trans e2).trans e3
        refine ⟨_, rfl, rfl, _, rfl, ?_⟩
        refine ite_t (by decide +kernel) ⟨_, rfl, _, _, rfl, .inl (e03.seq hA), _, _, rfl, rfl, _, rfl, ?_⟩
        refine ite_f (by decide) ?_
        refine ⟨_, rfl, rfl, _, rfl, ite_t (by decide +kernel) ?_⟩
        refine ⟨_, rfl, rfl, _, rfl, ite_f (by decide +kernel) ⟨_, rfl, ?_⟩⟩
        refine ⟨_, rfl, a, [], rfl, e03.seq hA, fun l hl => ?_⟩
        have e4 : Same H (upd H3 l (.lst [])) := e03.trans (same_new hl)
        have hL : (upd H3 l (.lst [])) l = some (.lst []) := upd_same
        refine ⟨l, rfl, ⟨_, SqL.of hL⟩, for_list (K := K) (a := l) (xs := []) (fun i σ H' => σ = [some (.ref a), some (.str "steep"), some (.int (g : Int)), none, none, none, some (.int ((0 : Nat) : Int)), some (.int ((g : Nat) : Int)), none, none] ∧ Same (upd H3 l (.lst [])) H')
          ⟨rfl, Same.refl _⟩ (fun i σ H' _ ⟨_, e⟩ => SqL.of (e _ _ hL)) (fun i z σ H5 hz => by cases hz) ?_⟩
        rintro σ H5 ⟨rfl, e5⟩
        refine ⟨_, rfl, _, rfl, (by show 2 ≤ sizeLine; decide), fun p hp => ?_⟩
        exact k _ _ ((e4.trans e5).trans (same_new hp)) ⟨p, rfl, SqT.of upd_same⟩
      · -- flat
        refine ⟨_, rfl, _, _, rfl, .inr (at_BOTTOMS E _), rfl, rfl, _, rfl, ?_⟩
        refine ite_f (by show (!inV (V.str "flat") [V.str "even", V.str "flat", V.str "steep"]) = false; decide +kernel) ?_
        refine ⟨_, rfl, _, "int", true, false, rfl, .base (.int _), by decide +kernel, by decide +kernel, _, rfl, ?_⟩
        refine ite_f rfl ⟨_, rfl, _, _, rfl, rfl, _, rfl, ?_⟩
        refine ite_f (decide_eq_false (by omega)) ?_
        refine ⟨_, rfl, a, rfl, ⟨_, hA⟩, fun D hD0 => ?_⟩
        refine lc_list (K := K) (a := a) (xs := []) (fun i H' => Same H H' ∧ H' D = some (.lst ((List.replicate i true).map V.bl))) ⟨same_new hD0, upd_same⟩ (fun i H' _ q => q.1.seq hA) (fun i z H1 hz => by cases hz) ?_
        rintro H1 ⟨e1, g1⟩
        refine ⟨D, _, rfl, SqL.of g1, true, ?_, ite_f rfl ?_⟩
        · rfl
        have hA1 := e1.seq hA
        refine ⟨_, rfl, _, rfl, 1, rfl, a, [], rfl, hA1, fun p hp => ?_⟩
        have e2 := same_new (o := .lst (cutV [] (some 1) none)) hp
        refine ⟨a, p, [], cutV [] (some 1) none, rfl, .inl ⟨e2.seq hA1, SqL.of upd_same, fun D2 hD2 => ?_⟩⟩
        refine lc_it (walk_zip (n := 0) rfl) (fun i H' => Same (upd H1 p (.lst (cutV [] (some 1) none))) H' ∧ H' D2 = some (.lst (List.replicate i (V.bl false)))) ⟨same_new hD2, upd_same⟩ (fun i H' _ q => ⟨(e2.trans q.1).seq hA1, SqL.of (q.1 _ _ upd_same)⟩) (fun i z H3 H4 hi => by omega) ?_
        rintro H3 ⟨e3, g3⟩
        refine ⟨D2, [], rfl, SqL.of g3, false, rfl, ite_f rfl ?_⟩
        have e03 := (e1.trans e2).trans e3
        refine ⟨_, rfl, rfl, _, rfl, ?_⟩
        refine ite_t (by decide +kernel) ⟨_, rfl, _, _, rfl, .inl (e03.seq hA), _, _, rfl, rfl, _, rfl, ?_⟩
        refine ite_f (by decide) ?_
        refine ⟨_, rfl, rfl, _, rfl, ite_f (by decide +kernel) ⟨_, rfl, ?_⟩⟩
        refine ⟨_, rfl, rfl, _, rfl, ite_t (by decide +kernel) ?_⟩
        refine ⟨_, rfl, a, [], rfl, e03.seq hA, fun l hl => ?_⟩
        have e4 : Same H (upd H3 l (.lst [])) := e03.trans (same_new hl)
        have hL : (upd H3 l (.lst [])) l = some (.lst []) := upd_same
        refine ⟨l, rfl, ⟨_, SqL.of hL⟩, for_list (K := K) (a := l) (xs := []) (fun i σ H' => σ = [some (.ref a), some (.str "flat"), some (.int (g : Int)), none, none, none, some (.int ((g : Nat) : Int)), some (.int ((0 : Nat) : Int)), none, none] ∧ Same (upd H3 l (.lst [])) H')
          ⟨rfl, Same.refl _⟩ (fun i σ H' _ ⟨_, e⟩ => SqL.of (e _ _ hL)) (fun i z σ H5 hz => by cases hz) ?_⟩
        rintro σ H5 ⟨rfl, e5⟩
        refine ⟨_, rfl, _, rfl, (by show 2 ≤ sizeLine; decide), fun p hp => ?_⟩
        exact k _ _ ((e4.trans e5).trans (same_new hp)) ⟨p, rfl, SqT.of upd_same⟩
    · -- the first test fails
      have hul := DpAll.length hD
      have eb : inV vb [V.str "even", V.str "flat", V.str "steep"] = inS baseS db := inS_of hB fb baseS
      refine ⟨_, rfl, _, _, rfl, .inr (at_BOTTOMS E _), flat_of hB fb, rfl, _, rfl, ?_⟩
      cases hb : inS baseS db with
      | false => exact ite_t (by show (!inV vb [V.str "even", V.str "flat", V.str "steep"]) = true; rw [eb, hb]; rfl) fun d hd => k H d (Same.refl _) hd
      | true =>
      refine ite_f (by show (!inV vb [V.str "even", V.str "flat", V.str "steep"]) = false; rw [eb, hb]; rfl) ?_
      rw [hb, Bool.true_and] at no
      refine ⟨_, rfl, _, _, _, _, rfl, Dp.tyx hG, kit_int dg, kit_bool dg, _, rfl, ?_⟩
      cases hi : isIntD dg with
      | false =>
        have e : ((false || isBoolD dg) && !isBoolD dg) = false := by cases isBoolD dg <;> rfl
        exact ite_t (by show (!((false || isBoolD dg) && !isBoolD dg)) = true; rw [e]; rfl) fun d hd => k H d (Same.refl _) hd
      | true =>
      obtain ⟨i, rfl, rfl⟩ := isInt_of hG hi
      refine ite_f (by rfl) ⟨_, rfl, _, _, rfl, rfl, _, rfl, ?_⟩
      by_cases hp : i < 1
      · exact ite_t (decide_eq_true hp) fun d hd => k H d (Same.refl _) hd
      refine ite_f (decide_eq_false hp) ?_
      rw [show posD (.int i) = true from decide_eq_true (by omega), Bool.true_and] at no
      refine ⟨_, rfl, a, rfl, ⟨_, hA⟩, fun D hD0 => ?_⟩
      refine lc_list (K := K) (a := a) (xs := us) (fun i H' => Same H H' ∧ H' D = some (.lst (((ds.take i).map runOkD).map V.bl))) ⟨same_new hD0, upd_same⟩ (fun i H' _ q => q.1.seq hA) ?_ ?_
      · rintro i z H1 hz ⟨e1, g1⟩
        obtain ⟨dz, hdz, hDz⟩ := DpAll.get hD hz
        have hi : i < ds.length := (List.getElem?_eq_some_iff.mp hdz).1
        refine ⟨rfl, _, rfl, z, dz, rfl, Dp.same e1 hDz, fr dz (List.mem_of_getElem? hdz), _, g1, ?_, same_mut e1 hD0, ?_⟩
        · rw [List.length_map, List.length_map, List.length_take]
          exact szl (by omega)
        · rw [upd_same, List.take_add_one, hdz]
          simp
      rintro H1 ⟨e1, g1⟩
      rw [List.take_of_length_le (by omega)] at g1
      refine ⟨D, _, rfl, SqL.of g1, false, ?_, ite_t rfl fun d hd => k H1 d e1 hd⟩
      rw [show ((ds.map runOkD).all id) = false by rw [List.all_map]; exact no]
    · -- the second test fails
      have hul := DpAll.length hD
      rw [List.length_map] at hul
      refine ⟨_, rfl, _, _, rfl, .inr (at_BOTTOMS E _), rfl, rfl, _, rfl, ?_⟩
      refine ite_f (by show (!inV (V.str w) [V.str "even", V.str "flat", V.str "steep"]) = false; rw [show inV (V.str w) [V.str "even", V.str "flat", V.str "steep"] = true from hw]; rfl) ?_
      refine ⟨_, rfl, _, "int", true, false, rfl, .base (.int _), by decide +kernel, by decide +kernel, _, rfl, ?_⟩
      refine ite_f rfl ⟨_, rfl, _, _, rfl, rfl, _, rfl, ?_⟩
      refine ite_f (decide_eq_false (by omega)) ?_
      refine ⟨_, rfl, a, rfl, ⟨_, hA⟩, fun D hD0 => ?_⟩
      refine lc_list (K := K) (a := a) (xs := us) (fun i H' => Same H H' ∧ H' D = some (.lst ((List.replicate i true).map V.bl))) ⟨same_new hD0, upd_same⟩ (fun i H' _ q => q.1.seq hA) ?_ ?_
      · rintro i z H1 hz ⟨e1, g1⟩
        obtain ⟨r, hr, p, rfl, hp⟩ := buildPo_at (Dp.sameAll e1 hD) hz
        have hi : i < us.length := (List.getElem?_eq_some_iff.mp hz).1
        have er : runOkD (runD r) = true := by rw [runOk_run]; exact decide_eq_true (hp1 r (List.mem_of_getElem? hr))
        refine ⟨rfl, _, rfl, .ref p, runD r, rfl, .tup hp (.cons (.str _) (.cons (.int _) .nil)), rfl, ?_⟩
        rw [er]
        refine ⟨_, g1, ?_, same_mut e1 hD0, ?_⟩
        · rw [List.length_map, List.length_replicate]
          exact szl (by omega)
        · rw [upd_same, List.replicate_succ', List.map_append]
          rfl
      rintro H1 ⟨e1, g1⟩
      refine ⟨D, _, rfl, SqL.of g1, true, ?_, ite_f rfl ?_⟩
      · rw [show (List.replicate us.length true).all id = true by simp]
      have hA1 := e1.seq hA
      -- any([one[0] == other[0] ..]) or (bottom != 'even' and ..)
      refine ⟨_, rfl, _, rfl, 1, rfl, a, us, rfl, hA1, fun p hp => ?_⟩
      have e2 := same_new (o := .lst (cutV us (some 1) none)) hp
      refine ⟨a, p, us, cutV us (some 1) none, rfl, .inl ⟨e2.seq hA1, SqL.of upd_same, fun D2 hD2 => ?_⟩⟩
      refine lc_it (walk_zip rfl) (fun i H' => Same (upd H1 p (.lst (cutV us (some 1) none))) H' ∧ H' D2 = some (.lst (((adjL rs).take i).map V.bl))) ⟨same_new hD2, upd_same⟩ (fun i H' _ q => ⟨(e2.trans q.1).seq hA1, SqL.of (q.1 _ _ upd_same)⟩) ?_ ?_
      · rintro i z H3 H4 hi ⟨e3, g3⟩ ⟨T, z1, z2, rfl, hT, rfl, q1, q2⟩
        dsimp only at q1 q2
        rw [cut_from1, List.getElem?_drop] at q2
        have e4 := (e1.trans e2).trans (e3.trans (same_new (o := .tup [z1, z2]) hT))
        obtain ⟨r1, hr1, p1, rfl, hp1'⟩ := buildPo_at (Dp.sameAll e4 hD) q1
        obtain ⟨r2, hr2, p2, rfl, hp2⟩ := buildPo_at (Dp.sameAll e4 hD) q2
        rw [Nat.add_comm] at hr2
        have nT : D2 ≠ T := ne_of_none g3 hT
        have hil : i < us.length := (List.getElem?_eq_some_iff.mp q1).1
        refine ⟨T, _, rfl, SqT.of upd_same, rfl, _, _, rfl, _, _, rfl, rfl, rfl, ?_⟩
        refine ⟨_, rfl, p1, _, _, _, rfl, rfl, hp1', rfl, _, rfl, p2, _, _, _, rfl, rfl, hp2, rfl, rfl, ?_⟩
        refine ⟨_, (by rw [upd_ne nT]; exact g3), ?_, same_mut (e3.trans (same_new hT)) hD2, ?_⟩
        · rw [List.length_map, List.length_take]
          exact szl (by omega)
        · rw [upd_same, List.take_add_one, adjL_at hr1 hr2, List.map_append, letS_eq]
          rfl
      rintro H3 ⟨e3, g3⟩
      have e03 := (e1.trans e2).trans e3
      rw [List.take_of_length_le (by rw [cut_from1, List.length_drop, adjL_len]; omega)] at g3
      refine ⟨D2, adjL rs, rfl, SqL.of g3, _, rfl, ?_⟩
      rw [adjL_any]
      cases ha : adjB rs with
      | true => exact ite_t rfl fun d hd => k H3 d e03 hd
      | false =>
      refine ite_f rfl ?_
      rw [ha, Bool.false_or, Bool.and_eq_true] at no
      obtain ⟨n1, n2⟩ := no
      refine ⟨_, rfl, rfl, _, rfl, ite_t n1 ⟨_, rfl, a, us, rfl, .inl (e03.seq hA), _, _, rfl, rfl, _, rfl, ?_⟩⟩
      have n2 := of_decide_eq_true n2
      exact ite_t (decide_eq_true (by show (0 : Int) < _; omega)) fun d hd => k H3 d e03 hd
    have hul := DpAll.length hD
    rw [List.length_map] at hul
    -- bottom not in BOTTOMS or not is_number(divisor) or divisor < 1 or not all(..)
    refine ⟨_, rfl, _, _, rfl, .inr (at_BOTTOMS E _), rfl, rfl, _, rfl, ?_⟩
    refine ite_f (by show (!inV (V.str "even") [V.str "even", V.str "flat", V.str "steep"]) = false; decide +kernel) ?_
    refine ⟨_, rfl, _, "int", true, false, rfl, .base (.int _), by decide +kernel, by decide +kernel, _, rfl, ?_⟩
    refine ite_f rfl ⟨_, rfl, _, _, rfl, rfl, _, rfl, ?_⟩
    refine ite_f (decide_eq_false (by omega)) ?_
    refine ⟨_, rfl, a, rfl, ⟨_, hA⟩, fun D hD0 => ?_⟩
    refine lc_list (K := K) (a := a) (xs := us) (fun i H' => Same H H' ∧ H' D = some (.lst ((List.replicate i true).map V.bl))) ⟨same_new hD0, upd_same⟩ (fun i H' _ q => q.1.seq hA) ?_ ?_
    · rintro i z H1 hz ⟨e1, g1⟩
      obtain ⟨r, hr, p, rfl, hp⟩ := buildPo_at (Dp.sameAll e1 hD) hz
      have hi : i < us.length := (List.getElem?_eq_some_iff.mp hz).1
      have er : runOkD (runD r) = true := by rw [runOk_run]; exact decide_eq_true (alt.pos r (List.mem_of_getElem? hr))
      refine ⟨rfl, _, rfl, .ref p, runD r, rfl, .tup hp (.cons (.str _) (.cons (.int _) .nil)), rfl, ?_⟩
      rw [er]
      refine ⟨_, g1, ?_, same_mut e1 hD0, ?_⟩
      · rw [List.length_map, List.length_replicate]
        exact szl (by omega)
      · rw [upd_same, List.replicate_succ', List.map_append]
        rfl
    rintro H1 ⟨e1, g1⟩
    refine ⟨D, _, rfl, SqL.of g1, true, ?_, ite_f rfl ?_⟩
    · rw [show (List.replicate us.length true).all id = true by simp]
    have hA1 := e1.seq hA
    -- any([one[0] == other[0] ..]) or (bottom != 'even' and ..)
    refine ⟨_, rfl, _, rfl, 1, rfl, a, us, rfl, hA1, fun p hp => ?_⟩
    have e2 := same_new (o := .lst (cutV us (some 1) none)) hp
    refine ⟨a, p, us, cutV us (some 1) none, rfl, .inl ⟨e2.seq hA1, SqL.of upd_same, fun D2 hD2 => ?_⟩⟩
    refine lc_it (walk_zip rfl) (fun i H' => Same (upd H1 p (.lst (cutV us (some 1) none))) H' ∧ H' D2 = some (.lst (List.replicate i (V.bl false)))) ⟨same_new hD2, upd_same⟩ (fun i H' _ q => ⟨(e2.trans q.1).seq hA1, SqL.of (q.1 _ _ upd_same)⟩) ?_ ?_
    · rintro i z H3 H4 hi ⟨e3, g3⟩ ⟨T, z1, z2, rfl, hT, rfl, q1, q2⟩
      dsimp only at q1 q2
      rw [cut_from1, List.getElem?_drop] at q2
      have e4 := (e1.trans e2).trans (e3.trans (same_new (o := .tup [z1, z2]) hT))
      obtain ⟨r1, hr1, p1, rfl, hp1⟩ := buildPo_at (Dp.sameAll e4 hD) q1
      obtain ⟨r2, hr2, p2, rfl, hp2⟩ := buildPo_at (Dp.sameAll e4 hD) q2
      rw [Nat.add_comm] at hr2
      have ne := alt.next i _ _ hr1 hr2
      have nT : D2 ≠ T := ne_of_none g3 hT
      have hil : i < us.length := (List.getElem?_eq_some_iff.mp q1).1
      refine ⟨T, _, rfl, SqT.of upd_same, rfl, _, _, rfl, _, _, rfl, rfl, rfl, ?_⟩
      refine ⟨_, rfl, p1, _, _, _, rfl, rfl, hp1, rfl, _, rfl, p2, _, _, _, rfl, rfl, hp2, rfl, rfl, ?_⟩
      have ev : decide (V.str (letS r1.1) = V.str (letS r2.1)) = false := by
        exact letS_ne ne
      rw [ev]
      refine ⟨_, (by rw [upd_ne nT]; exact g3), ?_, same_mut (e3.trans (same_new hT)) hD2, ?_⟩
      · rw [List.length_replicate]
        exact szl (by omega)
      · rw [upd_same, List.replicate_succ']
    rintro H3 ⟨e3, g3⟩
    refine ⟨D2, List.replicate _ false, rfl, SqL.of (by rw [List.map_replicate]; exact g3), false, ?_, ite_f rfl ?_⟩
    · rw [show (List.replicate _ false).any id = false by simp]
    refine ⟨_, rfl, rfl, _, rfl, ?_⟩
    refine ite_f (by decide +kernel) (ite_f rfl ?_)
    -- x, y
    refine ⟨_, rfl, rfl, _, rfl, ite_f (by decide +kernel) ⟨_, rfl, ?_⟩⟩
    refine ⟨_, rfl, rfl, _, rfl, ite_f (by decide +kernel) ⟨_, rfl, ?_⟩⟩
    have e03 := (e1.trans e2).trans e3
    -- for letter, count in runs[::-1]
    refine ⟨_, rfl, a, us, rfl, e03.seq hA, fun l hl => ?_⟩
    have e4 : Same H (upd H3 l (.lst us.reverse)) := e03.trans (same_new hl)
    have hL : (upd H3 l (.lst us.reverse)) l = some (.lst us.reverse) := upd_same
    generalize upd H3 l (.lst us.reverse) = H4 at *
    refine ⟨l, rfl, ⟨_, SqL.of hL⟩, for_list (K := K) (a := l) (xs := us.reverse) (fun i σ H' => ∃ s7 s8 : Option V, σ = [some (.ref a), some (.str "even"), some (.int (g : Int)), none, none, none, some (.int (((buildP g (rs.drop (rs.length - i))).1 : Nat) : Int)), some (.int (((buildP g (rs.drop (rs.length - i))).2 : Nat) : Int)), s7, s8] ∧ Same H4 H')
      ⟨_, _, by rw [Nat.sub_zero, List.drop_length]; rfl, Same.refl _⟩ (fun i σ H' _ ⟨_, _, _, e⟩ => SqL.of (e _ _ hL)) ?_ ?_⟩
    · rintro i z σ H5 hz ⟨_, _, rfl, e5⟩
      have hi : i < us.length := by
        have := (List.getElem?_eq_some_iff.mp hz).1
        rw [List.length_reverse] at this
        exact this
      rw [List.getElem?_reverse hi] at hz
      obtain ⟨r, hr, p, rfl, hp⟩ := buildPo_at (Dp.sameAll (e4.trans e5) hD) hz
      have ei : us.length - 1 - i = rs.length - (i + 1) := by omega
      rw [ei] at hr
      have bd := buildP_drop (g := g) hr
      rw [show rs.length - (i + 1) + 1 = rs.length - i by omega] at bd
      have b0 := hbd (rs.length - i)
      have b1 := hbd (rs.length - (i + 1))
      have hc := hcnt r (List.mem_of_getElem? hr)
      rw [bd] at b1 ⊢
      generalize buildP g (rs.drop (rs.length - i)) = q at *
      obtain ⟨x, y⟩ := q
      obtain ⟨c, n⟩ := r
      dsimp only at *
      refine ⟨p, _, rfl, hp, rfl, _, _, rfl, _, _, rfl, rfl, ?_⟩
      refine ⟨_, rfl, rfl, _, rfl, ?_⟩
      cases c
      · refine ite_f (by show decide (V.str "Y" = V.str "X") = false; decide +kernel) ?_
        refine ⟨_, rfl, _, rfl, _, rfl, _, _, rfl, rfl, okMul hc b0.1, _, _, rfl, rfl, some (.str (letS false)), some (.int (n : Int)), ?_, e5⟩
        rw [if_neg Bool.false_ne_true]
        rfl
      · refine ite_t (by show decide (V.str "X" = V.str "X") = true; decide +kernel) ?_
        refine ⟨_, rfl, _, rfl, _, rfl, _, _, rfl, rfl, okMul hc b0.2, _, _, rfl, rfl, some (.str (letS true)), some (.int (n : Int)), ?_, e5⟩
        rw [if_pos rfl]
        rfl
    · rintro σ H5 ⟨_, _, rfl, e5⟩
      rw [List.length_reverse, hul, Nat.sub_self, List.drop_zero]
      refine ⟨_, rfl, _, rfl, (by show 2 ≤ sizeLine; decide), fun p hp => ?_⟩
      exact k _ _ ((e4.trans e5).trans (same_new hp)) ⟨p, rfl, SqT.of upd_same⟩

/-! ### _law_field -/

theorem sc__law_field : FnScope ["e"] ["e"] (defScope s__law_field) := ⟨rfl, rfl, rfl, by decide +kernel, rfl, by decide +kernel, by decide +kernel⟩
theorem ok__law_field (E : En K mg) : GoodA P w K mg base 1 "_law_field" ["e"] (sp_field K) := by
  obtain ⟨fd, F⟩ := E.says.def_ 4 (d := d__law_field) rfl
  refine ⟨fd, ?_, F.bindsN fun _ _ _ _ _ _ us hl => match us, hl with | [_], _ => rfl, F.kp, E.gl "_law_field"⟩
  refine F.okA sc__law_field (fun vs H Q E' h => ?_) (fun cdv A outer s H vs Q E' hr h => ?_)
  · obtain ⟨a, C, dd, fs, tag, v, rfl, _⟩ := h; rfl
  · refine ⟨_, PSs.nox (pss_cons (ps_if (pt_cmpR op_in_seq (pe_xT (n := "tag") (pv 0) rfl) (pe_lst (pa_cons pe_str (pa_cons pe_str pa_nil))) (by rfl))
        (pss_one (ps_ret (pe_xT (n := "given") (pv 0) rfl)))
        pss_nil)
      (pss_cons (ps_if (pt_cmpR op_in_seq (pe_xT (n := "tag") (pv 0) rfl) (pe_lst (pa_cons pe_str (pa_cons pe_str (pa_cons pe_str (pa_cons pe_str (pa_cons pe_str (pa_cons pe_str (pa_cons pe_str pa_nil)))))))) (by rfl))
        (pss_one (ps_ret (pe_xT (n := "name") (pv 0) rfl)))
        pss_nil)
      (pss_cons (ps_if (pt_cmpR op_in_seq (pe_xT (n := "tag") (pv 0) rfl) (pe_lst (pa_cons pe_str (pa_cons pe_str (pa_cons pe_str pa_nil)))) (by rfl))
        (pss_one (ps_ret (pe_xT (n := "limit") (pv 0) rfl)))
        pss_nil)
      (pss_cons (ps_if (pt_cmpR op_eq (pe_xT (n := "tag") (pv 0) rfl) pe_str (nomark _))
        (pss_one (ps_ret (pe_xT (n := "line") (pv 0) rfl)))
        pss_nil)
      (pss_cons (ps_if (pt_cmpR op_eq (pe_xT (n := "tag") (pv 0) rfl) pe_str (nomark _))
        (pss_one (ps_ret (pe_xT (n := "word") (pv 0) rfl)))
        pss_nil)
      (pss_cons (ps_if (pt_cmpR op_eq (pe_xT (n := "tag") (pv 0) rfl) pe_str (nomark _))
        (pss_one (ps_ret (pe_xT (n := "place") (pv 0) rfl)))
        pss_nil)
      (pss_cons (ps_if (pt_cmpR op_eq (pe_xT (n := "tag") (pv 0) rfl) pe_str (nomark _))
        (pss_one (ps_ret (pe_xT (n := "most") (pv 0) rfl)))
        pss_nil)
      (pss_one (ps_ret (pe_ifExp (pt_cmpR op_eq (pe_xT (n := "tag") (pv 0) rfl) pe_str (nomark _)) (pe_xT (n := "row") (pv 0) rfl) pe_non)))))))))), ?_⟩
    obtain ⟨a, C, dd, fs, tag, v, rfl, ha, T, ht, hd, l, fo, k⟩ := h
    have e0 : Same H H := Same.refl _
    unfold FldOk fldOf at fo
    refine ⟨_, rfl, a, C, dd, fs, .str tag, rfl, ha, T, ht, hd, l, (by show 2 ≤ sizeLine; decide), fun l1 h1 => ⟨l1, _, rfl, .inl (SqL.of upd_same), rfl, rfl, _, rfl, ?_⟩⟩
    have e1 := same_new (o := .lst [.str "InvalidPair", .str "InvalidCount"]) h1
    cases c1 : inV (.str tag) [.str "InvalidPair", .str "InvalidCount"] with
    | true =>
      rw [if_pos c1] at fo
      obtain ⟨f1, f2⟩ := fo
      exact ite_t (by rfl) ⟨_, rfl, a, C, dd, fs, v, rfl, e1 _ _ ha, T, f1, e1 _ _ hd, f2, k _ e1⟩
    | false =>
    rw [if_neg (by rw [c1]; exact Bool.false_ne_true)] at fo
    refine ite_f (by rfl) ?_
    refine ⟨_, rfl, a, C, dd, fs, .str tag, rfl, e1 _ _ ha, T, ht, e1 _ _ hd, l, (by show 7 ≤ sizeLine; decide), fun l2 h2 => ⟨l2, _, rfl, .inl (SqL.of upd_same), rfl, rfl, _, rfl, ?_⟩⟩
    have e2 := e1.trans (same_new (o := .lst [.str "InvalidName", .str "DuplicateName", .str "InUse", .str "WrongKind", .str "Ring", .str "UnknownName", .str "Ended"]) h2)
    cases c2 : inV (.str tag) [.str "InvalidName", .str "DuplicateName", .str "InUse", .str "WrongKind", .str "Ring", .str "UnknownName", .str "Ended"] with
    | true =>
      rw [if_pos c2] at fo
      obtain ⟨f1, f2⟩ := fo
      exact ite_t (by rfl) ⟨_, rfl, a, C, dd, fs, v, rfl, e2 _ _ ha, T, f1, e2 _ _ hd, f2, k _ e2⟩
    | false =>
    rw [if_neg (by rw [c2]; exact Bool.false_ne_true)] at fo
    refine ite_f (by rfl) ?_
    refine ⟨_, rfl, a, C, dd, fs, .str tag, rfl, e2 _ _ ha, T, ht, e2 _ _ hd, l, (by show 3 ≤ sizeLine; decide), fun l3 h3 => ⟨l3, _, rfl, .inl (SqL.of upd_same), rfl, rfl, _, rfl, ?_⟩⟩
    have e3 := e2.trans (same_new (o := .lst [.str "InvalidLimit", .str "CapacityExceeded", .str "TooLong"]) h3)
    cases c3 : inV (.str tag) [.str "InvalidLimit", .str "CapacityExceeded", .str "TooLong"] with
    | true =>
      rw [if_pos c3] at fo
      obtain ⟨f1, f2⟩ := fo
      exact ite_t (by rfl) ⟨_, rfl, a, C, dd, fs, v, rfl, e3 _ _ ha, T, f1, e3 _ _ hd, f2, k _ e3⟩
    | false =>
    rw [if_neg (by rw [c3]; exact Bool.false_ne_true)] at fo
    refine ite_f (by rfl) ?_
    refine ⟨_, rfl, a, C, dd, fs, .str tag, rfl, e3 _ _ ha, T, ht, e3 _ _ hd, l, rfl, _, rfl, ?_⟩
    cases c4 : decide (V.str tag = V.str "InvalidProgram") with
    | true =>
      rw [if_pos c4] at fo
      obtain ⟨f1, f2⟩ := fo
      exact ite_t (by first | exact c4 | rfl) ⟨_, rfl, a, C, dd, fs, v, rfl, e3 _ _ ha, T, f1, e3 _ _ hd, f2, k _ e3⟩
    | false =>
    rw [if_neg (by rw [c4]; exact Bool.false_ne_true)] at fo
    refine ite_f (by first | exact c4 | rfl) ?_
    refine ⟨_, rfl, a, C, dd, fs, .str tag, rfl, e3 _ _ ha, T, ht, e3 _ _ hd, l, rfl, _, rfl, ?_⟩
    cases c5 : decide (V.str tag = V.str "InvalidCommand") with
    | true =>
      rw [if_pos c5] at fo
      obtain ⟨f1, f2⟩ := fo
      exact ite_t (by first | exact c5 | rfl) ⟨_, rfl, a, C, dd, fs, v, rfl, e3 _ _ ha, T, f1, e3 _ _ hd, f2, k _ e3⟩
    | false =>
    rw [if_neg (by rw [c5]; exact Bool.false_ne_true)] at fo
    refine ite_f (by first | exact c5 | rfl) ?_
    refine ⟨_, rfl, a, C, dd, fs, .str tag, rfl, e3 _ _ ha, T, ht, e3 _ _ hd, l, rfl, _, rfl, ?_⟩
    cases c6 : decide (V.str tag = V.str "InvalidItem") with
    | true =>
      rw [if_pos c6] at fo
      obtain ⟨f1, f2⟩ := fo
      exact ite_t (by first | exact c6 | rfl) ⟨_, rfl, a, C, dd, fs, v, rfl, e3 _ _ ha, T, f1, e3 _ _ hd, f2, k _ e3⟩
    | false =>
    rw [if_neg (by rw [c6]; exact Bool.false_ne_true)] at fo
    refine ite_f (by first | exact c6 | rfl) ?_
    refine ⟨_, rfl, a, C, dd, fs, .str tag, rfl, e3 _ _ ha, T, ht, e3 _ _ hd, l, rfl, _, rfl, ?_⟩
    cases c7 : decide (V.str tag = V.str "Heavy") with
    | true =>
      rw [if_pos c7] at fo
      obtain ⟨f1, f2⟩ := fo
      exact ite_t (by first | exact c7 | rfl) ⟨_, rfl, a, C, dd, fs, v, rfl, e3 _ _ ha, T, f1, e3 _ _ hd, f2, k _ e3⟩
    | false =>
    rw [if_neg (by rw [c7]; exact Bool.false_ne_true)] at fo
    refine ite_f (by first | exact c7 | rfl) ?_
    refine ⟨_, rfl, a, C, dd, fs, .str tag, rfl, e3 _ _ ha, T, ht, e3 _ _ hd, l, rfl, _, rfl, ?_⟩
    cases c8 : decide (V.str tag = V.str "ParseError") with
    | true =>
      rw [if_pos c8] at fo
      obtain ⟨f1, f2⟩ := fo
      exact ite_t (by first | exact c8 | rfl) ⟨_, rfl, a, C, dd, fs, v, rfl, e3 _ _ ha, T, f1, e3 _ _ hd, f2, k _ e3⟩
    | false =>
    rw [if_neg (by rw [c8]; exact Bool.false_ne_true)] at fo
    refine ite_f (by first | exact c8 | rfl) ?_
    rw [← (show v = .non from fo)]
    exact k _ e3


/-! ### _law_try -/

theorem sc__law_try : FnScope ["ask", "e"] ["ask"] (defScope s__law_try) := ⟨rfl, rfl, rfl, by decide +kernel, rfl, by decide +kernel, by decide +kernel⟩
theorem ok__law_try (E : En K mg) (G__law_field : GoodA P w K mg base 1 "_law_field" ["e"] (sp_field K)) : GoodT P w K mg base 14 (He.ga K "PathError") := by
  obtain ⟨fd, F⟩ := E.says.def_ 5 (d := d__law_try) rfl
  refine good_try F (F.bindsN fun _ _ _ _ _ _ us hl => match us, hl with | [_], _ => rfl) sc__law_try (E.gl "_law_try") (fun X q cdv h1 h2 h3 h4 h5 hr => ?_)
  subst h1 h2 h3 h4 h5
  exact try_gives G__law_field hr (by decide) (by rfl) (by rfl) (E.gl "PathError") (by rfl)


/-! ### _law_pull -/
/-- a draw: some number from 0 on and below the amount; the bag alone has changed -/
def sp__law_pull (K : PySem.W.Frag) : Sp := fun vs H Q _ => ∃ (b : Addr) (n : Int), vs = [.ref b, .int n] ∧ Bag H b ∧ 0 < n ∧ n < 4611686018427387904 ∧ ∀ (r : Int) (H' : Hp), 0 ≤ r → r < n → Bag H' b → Kp b H H' → Q (.int r) H'
theorem at4_0 (a b c d : V) : atI [a, b, c, d] 0 = some a := rfl
theorem at4_1 (a b c d : V) : atI [a, b, c, d] 1 = some b := rfl
theorem at4_2 (a b c d : V) : atI [a, b, c, d] 2 = some c := rfl
theorem at4_3 (a b c d : V) : atI [a, b, c, d] 3 = some d := rfl
/-- the bag behind the first if -/
def pullMid (b : Addr) (n : Int) (H : Hp) : L2.St → Hp → Prop := fun σ H' => Bag H' b ∧ Kp b H H' ∧ ∃ v, σ = [some (.ref b), some (.int n), v, none, none]
theorem bag_put {H : Hp} {b c : Addr} {xs : List Int} {i hold seed : Int} {o : HO} (h : o = .lst [.ref c, .int i, .int hold, .int seed]) (h2 : H c = some (.lst (xs.map V.int))) (ne : b ≠ c) (h3 : xs.length ≤ 63) (h4 : 0 ≤ i) (h5 : 0 ≤ hold) (h6 : 0 ≤ seed) (h7 : seed < 2147483647) : Bag (upd H b o) b :=
  ⟨c, xs, i, hold, seed, by rw [upd_same, h], by rw [upd_ne ne.symm]; exact h2, ne, h3, h4, h5, h6, h7⟩

theorem sc__law_pull : FnScope ["bag", "amount", "cell", "got", "seed"] ["bag", "amount"] (defScope s__law_pull) := ⟨rfl, rfl, rfl, by decide +kernel, rfl, by decide +kernel, by decide +kernel⟩
theorem ok__law_pull (E : En K mg) : Good P w K mg base CX0 1 "_law_pull" ["bag", "amount"] (sp__law_pull K) := by
  obtain ⟨fd, F⟩ := E.says.def_ 6 (d := d__law_pull) rfl
  refine ⟨fd, ?_, F.bindsN fun _ _ _ _ _ _ us hl => match us, hl with | [_, _], _ => rfl, F.kp, E.gl "_law_pull"⟩
  refine F.ok sc__law_pull (fun vs H Q E' h => ?_) (fun cdv A outer s H vs Q E' hr h => ?_)
  · obtain ⟨b, n, rfl, _⟩ := h; rfl
  · have hu64 := hu64_of hr
    refine ⟨_, PSs.nox (C8.pss_cut (ps_if (PW.pt (pw_and (pt_cmpR op_eq (pe_ix ix_list (pv 0) pe_int (fun _ _ => rfl)) pe_int (nomark _)) (pw_and1 (pt_cmpR op_lt (pe_ix ix_list (pv 0) pe_int (fun _ _ => rfl)) (pe_callB call_len_seq (by rfl) (E.fr "len") (by decide +kernel) (pa_cons (pe_ix ix_list (pv 0) pe_int (fun _ _ => rfl)) pa_nil)) (nomark _)))))
        (pss_cons (ps_set (i := 2) sc__law_pull.nd rfl (by first | exact Or.inl rfl | exact Or.inr rfl) (pe_ix ix_list (pe_ix ix_list (pv 0) pe_int (fun _ _ => rfl)) (pe_ix ix_list (pv 0) pe_int (fun _ _ => rfl)) (fun _ _ => rfl)))
      (pss_cons (ps_asg (pe_op op_add (pe_ix ix_list (pv 0) pe_int (fun _ _ => rfl)) pe_int) (pg_sub (pv 0) pe_int set_list))
      (pss_one (ps_if (pt_cmpR op_ge (pv 2) (pe_op op_pow pe_int pe_int) (nomark _))
        (pss_one (ps_asg (pv 2) (pg_sub (pv 0) pe_int set_list)))
        (pss_one (ps_asg (pe_op op_mod (pe_callTy call_int1 (by rfl) (E.fr "int") (by decide +kernel) (pa_cons (pe_op op_add (pe_op op_add (pe_op op_mul (pe_ix ix_list (pv 0) pe_int (fun _ _ => rfl)) pe_int) (pe_op op_mul (pe_op op_mod (pe_callTy call_int1 (by rfl) (E.fr "int") (by decide +kernel) (pa_cons (pv 2) pa_nil)) pe_int) pe_int)) pe_int) pa_nil)) pe_int) (pg_sub (pv 0) pe_int set_list)))))))
        pss_nil)
      (pss_cons (ps_if (pt_cmpR op_gt (pe_ix ix_list (pv 0) pe_int (fun _ _ => rfl)) pe_int (nomark _))
        (pss_cons (ps_set (i := 3) sc__law_pull.nd rfl (by first | exact Or.inl rfl | exact Or.inr rfl) (pe_op op_mod (pe_callTy call_int1 (by rfl) (E.fr "int") (by decide +kernel) (pa_cons (pe_ix ix_list (pv 0) pe_int (fun _ _ => rfl)) pa_nil)) (pv 1)))
      (pss_cons (ps_asg (pe_op op_fdivW (pe_ix ix_list (pv 0) pe_int (fun _ _ => rfl)) (pv 1)) (pg_sub (pv 0) pe_int set_list))
      (pss_one (ps_ret (pv 3)))))
        pss_nil)
      (pss_cons (ps_set (i := 4) sc__law_pull.nd rfl (by first | exact Or.inl rfl | exact Or.inr rfl) (pe_ix ix_list (pv 0) pe_int (fun _ _ => rfl)))
      (pss_cons (ps_asg (pe_op op_mod (pe_callTy call_int1 (by rfl) (E.fr "int") (by decide +kernel) (pa_cons (pe_op op_add (pe_op op_add (pe_op op_mul (pv 4) (pv 4)) (pe_op op_mul (pv 4) pe_int)) pe_int) pa_nil)) pe_int) (pg_sub (pv 0) pe_int set_list))
      (pss_one (ps_ret (pe_op op_mod (pe_callTy call_int1 (by rfl) (E.fr "int") (by decide +kernel) (pa_cons (pe_op op_add (pe_op op_fdiv (pe_ix ix_list (pv 0) pe_int (fun _ _ => rfl)) pe_int) (pe_op op_mul (pe_op op_mod (pe_callTy call_int1 (by rfl) (E.fr "int") (by decide +kernel) (pa_cons (pe_ix ix_list (pv 0) pe_int (fun _ _ => rfl)) pa_nil)) pe_int) pe_int)) pa_nil)) (pv 1)))))))), ?_⟩
    obtain ⟨b, n, rfl, B, hn, hn2, k⟩ := h
    refine ⟨pullMid b n H, ?_, ?_⟩
    · obtain ⟨c, xs, i, hold, seed, h1, h2, ne, h3, h4, h5, h6, h7⟩ := B.ex
      refine ⟨_, rfl, b, _, _, _, rfl, rfl, SqL.of h1, at4_2 _ _ _ _, rfl, _, rfl, ?_⟩
      by_cases c0 : hold = 0
      · subst c0
        refine ite_t (deq rfl) ?_
        refine ⟨_, rfl, b, _, _, _, rfl, rfl, SqL.of h1, at4_1 _ _ _ _, _, rfl, b, _, _, _, rfl, rfl, SqL.of h1, at4_0 _ _ _ _, c, _, rfl, .inl (SqL.of h2), _, _, rfl, rfl, _, rfl, ?_⟩
        refine ite2 (fun cl => ?_) (fun _ => ⟨B, Kp.refl _ _, _, rfl⟩)
        have cl' : i < ((xs.map V.int).length : Int) := of_decide_eq_true cl
        rw [List.length_map] at cl'
        have hi : i.toNat < xs.length := by omega
        have ei : ((i.toNat : Nat) : Int) = i := by omega
        have ha : atI (xs.map V.int) i = some (.int xs[i.toNat]) := by
          have q : atI (xs.map V.int) ((i.toNat : Nat) : Int) = some (.int xs[i.toNat]) := atI_nat (by rw [List.getElem?_map, List.getElem?_eq_getElem hi] <;> rfl)
          rw [ei] at q
          exact q
        -- cell = bag[0][bag[1]]
        refine ⟨_, rfl, b, _, _, _, rfl, rfl, SqL.of h1, at4_0 _ _ _ _, _, rfl, b, _, _, _, rfl, rfl, SqL.of h1, at4_1 _ _ _ _, c, _, _, _, rfl, rfl, SqL.of h2, ha, ?_⟩
        -- bag[1] = bag[1] + 1
        refine ⟨_, rfl, b, _, _, _, rfl, rfl, SqL.of h1, at4_1 _ _ _ _, _, _, rfl, rfl, _, rfl, b, _, _, 1, rfl, rfl, h1, rfl, ?_⟩
        have g1 : (upd H b (.lst [.ref c, .int (i + 1), .int 0, .int seed])) b = some (.lst [.ref c, .int (i + 1), .int 0, .int seed]) := upd_same
        have g2 : (upd H b (.lst [.ref c, .int (i + 1), .int 0, .int seed])) c = some (.lst (xs.map V.int)) := by rw [upd_ne ne.symm]; exact h2
        -- if cell >= 10 ** 18
        refine ⟨_, rfl, _, _, rfl, rfl, ⟨by decide, by decide, by decide⟩, _, _, rfl, rfl, _, rfl, ?_⟩
        refine ite2 (fun cc => ?_) (fun _ => ?_)
        · have cc' : (10 : Int) ^ (18 : Int).toNat ≤ xs[i.toNat] := of_decide_eq_true cc
          have c0 : 0 ≤ xs[i.toNat] := Int.le_trans (by decide) cc'
          refine ⟨_, rfl, _, rfl, b, _, _, 2, rfl, rfl, g1, rfl, ?_⟩
          exact ⟨bag_put rfl g2 ne h3 (by omega) c0 h6 h7, (Kp.put h1).trans (Kp.put g1), _, rfl⟩
        · refine ⟨_, rfl, b, _, _, _, rfl, rfl, SqL.of g1, at4_3 _ _ _ _, _, _, rfl, rfl, .inr ⟨by decide, by decide⟩, _, rfl, .inl ⟨_, rfl, _, _, rfl, rfl, (by show (0 : Int) < _; decide), _, _, rfl, rfl, .inr ⟨by decide, by decide⟩, _, _, rfl, rfl, _, _, rfl, rfl, .inl ⟨_, rfl, _, _, rfl, rfl, (by show (0 : Int) < _; decide), ?_⟩⟩⟩
          refine ⟨_, rfl, b, _, _, 3, rfl, rfl, g1, rfl, ?_⟩
          have q := emod_bd (seed * 40699 + xs[i.toNat] % 2147483587 * 69691 + 13) (m := 2147483647) (by decide)
          exact ⟨bag_put rfl g2 ne h3 (by omega) (by decide) q.1 q.2, (Kp.put h1).trans (Kp.put g1), _, rfl⟩
      · exact ite_f (dne c0) (ite_f rfl ⟨B, Kp.refl _ _, _, rfl⟩)
    · rintro σ H1 ⟨B1, kp, v, rfl⟩
      obtain ⟨c, xs, i, hold, seed, h1, h2, ne, h3, h4, h5, h6, h7⟩ := B1.ex
      refine ⟨_, rfl, b, _, _, _, rfl, rfl, SqL.of h1, at4_2 _ _ _ _, _, _, rfl, rfl, _, rfl, ?_⟩
      refine ite2 (fun _ => ?_) (fun _ => ?_)
      · -- got = int(bag[2]) % amount; bag[2] = bag[2] // amount; return got
        refine ⟨_, rfl, b, _, _, _, rfl, rfl, SqL.of h1, at4_2 _ _ _ _, .inl ⟨_, rfl, _, rfl, _, _, rfl, rfl, hn, ?_⟩⟩
        refine ⟨_, rfl, b, _, _, _, rfl, rfl, SqL.of h1, at4_2 _ _ _ _, _, rfl, _, _, rfl, rfl, wide_div hn (b := 62) (by omega) (by decide) (by decide), _, rfl, b, _, _, 2, rfl, rfl, h1, rfl, _, rfl, ?_⟩
        have q := emod_bd hold (m := n) hn
        exact k _ _ q.1 q.2 (bag_put rfl h2 ne h3 h4 (Int.ediv_nonneg h5 (by omega)) h6 h7) (kp.trans (Kp.put h1))
      · -- seed = bag[3]
        refine ⟨_, rfl, b, _, _, _, rfl, rfl, SqL.of h1, at4_3 _ _ _ _, ?_⟩
        refine ⟨_, rfl, _, rfl, _, _, rfl, rfl, .inr ⟨by omega, by omega⟩, _, rfl, _, _, rfl, rfl, .inr ⟨by decide, by decide⟩, _, _, rfl, rfl, _, _, rfl, rfl, .inl ⟨_, rfl, _, _, rfl, rfl, (by show (0 : Int) < _; decide), _, rfl, b, _, _, 3, rfl, rfl, h1, rfl, ?_⟩⟩
        have g1 : ∀ z : Int, (upd H1 b (.lst [.ref c, .int i, .int hold, .int z])) b = some (.lst [.ref c, .int i, .int hold, .int z]) := fun _ => upd_same
        refine ⟨_, rfl, b, _, _, _, rfl, rfl, SqL.of (g1 _), at4_3 _ _ _ _, _, _, rfl, rfl, ⟨by decide, by decide⟩, _, rfl, b, _, _, _, rfl, rfl, SqL.of (g1 _), at4_3 _ _ _ _, .inl ⟨_, rfl, _, _, rfl, rfl, (by show (0 : Int) < _; decide), _, _, rfl, rfl, .inr ⟨by decide, by decide⟩, _, _, rfl, rfl, .inl ⟨_, rfl, _, rfl, _, _, rfl, rfl, hn, ?_⟩⟩⟩
        have q := emod_bd (seed * seed + seed * 48271 + 1013904227) (m := 2147483647) (by decide)
        have r := emod_bd ((seed * seed + seed * 48271 + 1013904227) % 2147483647 / 97 + (seed * seed + seed * 48271 + 1013904227) % 2147483647 % 8191 * 67) (m := n) hn
        exact k _ _ r.1 r.2 (bag_put rfl h2 ne h3 h4 h5 q.1 q.2) (kp.trans (Kp.put h1))

/-! ### _law_of -/
/-- one of the things of a list, whichever -/
def sp__law_of (K : PySem.W.Frag) : Sp := fun vs H Q _ => ∃ (b t : Addr) (xs : List V), vs = [.ref b, .ref t] ∧ Bag H b ∧ t ≠ b ∧ SqL K H t xs ∧ 0 < xs.length ∧ xs.length ≤ 1000 ∧ ∀ (i : Nat) (v : V) (H' : Hp), xs[i]? = some v → Bag H' b → Kp b H H' → Q v H'

theorem sc__law_of : FnScope ["bag", "things"] ["bag", "things"] (defScope s__law_of) := ⟨rfl, rfl, rfl, by decide +kernel, rfl, by decide +kernel, by decide +kernel⟩
theorem ok__law_of (E : En K mg) (G__law_pull : Good P w K mg base CX0 1 "_law_pull" ["bag", "amount"] (sp__law_pull K)) : Good P w K mg base CX0 2 "_law_of" ["bag", "things"] (sp__law_of K) := by
  obtain ⟨fd, F⟩ := E.says.def_ 7 (d := d__law_of) rfl
  refine ⟨fd, ?_, F.bindsN fun _ _ _ _ _ _ us hl => match us, hl with | [_, _], _ => rfl, F.kp, E.gl "_law_of"⟩
  refine F.ok sc__law_of (fun vs H Q E' h => ?_) (fun cdv A outer s H vs Q E' hr h => ?_)
  · obtain ⟨b, t, xs, rfl, _⟩ := h; rfl
  · have hu64 := hu64_of hr
    refine ⟨_, PSs.nox (pss_one (ps_ret (pe_ix ix_list (pv 1) (pe_G G__law_pull (hr.mono (by decide)) rfl pass0 (pa_cons (pv 0) (pa_cons (pe_callB call_len_seq (by rfl) (E.fr "len") (by decide +kernel) (pa_cons (pv 1) pa_nil)) pa_nil))) (fun _ _ => rfl)))), ?_⟩
    obtain ⟨b, t, xs, rfl, B, ne, hS, h0, h1, k⟩ := h
    refine ⟨_, rfl, _, rfl, _, rfl, t, xs, rfl, .inl hS, ?_⟩
    refine ⟨b, _, rfl, B, by omega, by omega, fun r H' r0 r1 B' kp => ?_⟩
    have hi : r.toNat < xs.length := by omega
    have ei : ((r.toNat : Nat) : Int) = r := by omega
    have ha : atI xs r = some xs[r.toNat] := by
      have q : atI xs ((r.toNat : Nat) : Int) = some xs[r.toNat] := atI_nat (List.getElem?_eq_getElem hi)
      rw [ei] at q
      exact q
    exact ⟨t, xs, _, _, rfl, rfl, kp.seq ne hS, ha, k r.toNat _ H' (List.getElem?_eq_getElem hi) B' kp⟩

/-! ### _law_same -/
/-- no list or tuple is long -/
abbrev small : PyData → Bool := smallD
/-- two values of the same data -/
def spSame (n : Nat) (K : PySem.W.Frag) : Sp := fun vs H Q _ => ∃ (u v : V) (d : PyData), vs = [u, v] ∧ Dp K H u d ∧ Dp K H v d ∧ d.depth < n ∧ small d = true ∧ ∀ H', Same H H' → Q (.bl true) H'
def sp__law_same (K : PySem.W.Frag) : Sp := spSame 12 K

theorem sc__law_same : FnScope ["found", "due", "a", "b"] ["found", "due"] (defScope s__law_same) := ⟨rfl, rfl, rfl, by decide +kernel, rfl, by decide +kernel, by decide +kernel⟩
/-- lists within are short -/
theorem depth_get : ∀ {ds : List PyData} {i : Nat} {d : PyData}, ds[i]? = some d → d.depth ≤ PyData.depthAll ds
  | [], _, _, h => by cases h
  | _ :: _, 0, _, h => by
    cases h
    rw [PyData.depthAll]
    exact Nat.le_max_left _ _
  | _ :: ds, i + 1, _, h => by
    rw [PyData.depthAll]
    exact Nat.le_trans (depth_get (ds := ds) (i := i) (by simpa using h)) (Nat.le_max_right _ _)
theorem walk_zipT {K : PySem.W.Frag} {a b : Addr} {xs ys : List V} {n : Nat} (hn : n = min xs.length ys.length) : Walk (RZ.ItzT K a b) n (fun H => SqT K H a xs ∧ SqT K H b ys) (YPair (fun i => xs[i]?) (fun i => ys[i]?)) := by
  subst hn
  refine ⟨fun i _ hi q => ?_, fun _ q => ⟨xs, ys, q.1, q.2, by omega⟩, fun i H v H' _ q y => ?_⟩
  · have h1 : i < xs.length := by omega
    have h2 : i < ys.length := by omega
    exact ⟨xs, ys, xs[i], ys[i], q.1, q.2, by simp [h1], by simp [h2]⟩
  · obtain ⟨T, x, z, h1, h2, h3, h4, h5⟩ := y
    exact ⟨T, x, z, h1, h2, h3, h4 xs q.1, h5 ys q.2⟩
theorem same_step {n : Nat} (E : En K mg) (G__law_same : Good P w K mg base CX0 n "_law_same" ["found", "due"] (spSame n K)) : Good P w K mg base CX0 (n + 1) "_law_same" ["found", "due"] (spSame (n + 1) K) := by
  obtain ⟨fd, F⟩ := E.says.def_ 8 (d := d__law_same) rfl
  refine ⟨fd, ?_, F.bindsN fun _ _ _ _ _ _ us hl => match us, hl with | [_, _], _ => rfl, F.kp, E.gl "_law_same"⟩
  refine F.ok sc__law_same (fun vs H Q E' h => ?_) (fun cdv A outer s H vs Q E' hr h => ?_)
  · obtain ⟨u, v, d, rfl, _⟩ := h; rfl
  refine ⟨_, PSs.nox (pss_cons (ps_if (PW.pt (pw_or (pt_val (pe_callB call_isi (by rfl) (E.fr "isinstance") (by decide +kernel) (pa_cons (pv 1) (pa_cons (pe_bltn (v := .ty "list") (by rfl) (E.fr "list") (by decide +kernel) rfl) pa_nil)))) (pw_or1 (pt_val (pe_callB call_isi (by rfl) (E.fr "isinstance") (by decide +kernel) (pa_cons (pv 1) (pa_cons (pe_bltn (v := .ty "tuple") (by rfl) (E.fr "tuple") (by decide +kernel) rfl) pa_nil)))))))
        (pss_cons (ps_if (PW.pt (pw_or (pt_cmpR op_ne (pe_callB call_isi (by rfl) (E.fr "isinstance") (by decide +kernel) (pa_cons (pv 0) (pa_cons (pe_bltn (v := .ty "list") (by rfl) (E.fr "list") (by decide +kernel) rfl) pa_nil))) (pe_callB call_isi (by rfl) (E.fr "isinstance") (by decide +kernel) (pa_cons (pv 1) (pa_cons (pe_bltn (v := .ty "list") (by rfl) (E.fr "list") (by decide +kernel) rfl) pa_nil))) (nomark _)) (pw_or1 (pt_cmpR op_ne (pe_callB call_isi (by rfl) (E.fr "isinstance") (by decide +kernel) (pa_cons (pv 0) (pa_cons (pe_bltn (v := .ty "tuple") (by rfl) (E.fr "tuple") (by decide +kernel) rfl) pa_nil))) (pe_callB call_isi (by rfl) (E.fr "isinstance") (by decide +kernel) (pa_cons (pv 1) (pa_cons (pe_bltn (v := .ty "tuple") (by rfl) (E.fr "tuple") (by decide +kernel) rfl) pa_nil))) (nomark _)))))
        (pss_one (ps_ret pe_bl))
        pss_nil)
      (pss_one (ps_ret (pe_and (pe_cmpR op_eq (pe_callB call_len_seq (by rfl) (E.fr "len") (by decide +kernel) (pa_cons (pv 0) pa_nil)) (pe_callB call_len_seq (by rfl) (E.fr "len") (by decide +kernel) (pa_cons (pv 1) pa_nil)) (nomark _)) (pe_one (pe_callB (show CallR _ _ (rAll K) from cr_all rfl) (by rfl) (E.fr "all") (by decide +kernel) (pa_cons (pe_lc (own := [("a", 2), ("b", 3)]) (by rfl) sc__law_same.nd (RZ.pi_zipA (by rfl) (E.fr "zip") (pa_cons (pv 0) (pa_cons (pv 1) pa_nil))) (blkOk_by (N := ["found", "due", "a", "b"]) (sc := defScope s__law_same) (by decide +kernel)) (by exact fun _ _ _ _ _ => (show PG _ _ (gTup K 2 _) from pg_tup (n := 2) rfl (pgs_cons (pg_name (i := 2) sc__law_same.nd rfl (by first | exact Or.inl rfl | exact Or.inr rfl)) (pgs_cons (pg_name (i := 3) sc__law_same.nd rfl (by first | exact Or.inl rfl | exact Or.inr rfl)) pgs_nil)))) (by exact fun _ _ _ _ _ => pts_nil) (by exact fun _ _ _ _ _ => (pe_G G__law_same hr rfl pass0 (pa_cons (pv 2) (pa_cons (pv 3) pa_nil))))) pa_nil)))))))
        pss_nil)
      (pss_cons (ps_if (PW.pt (pw_or (pt_cmpR op_isN (pv 1) pe_non (nomark _)) (pw_or1 (pt_cmpR op_isN (pv 0) pe_non (nomark _)))))
        (pss_one (ps_ret (pe_and (pe_cmpR op_isN (pv 1) pe_non (nomark _)) (pe_one (pe_cmpR op_isN (pv 0) pe_non (nomark _))))))
        pss_nil)
      (pss_cons (ps_if (PW.pt (pw_or (pt_cmpR op_ne (pe_callB call_isi (by rfl) (E.fr "isinstance") (by decide +kernel) (pa_cons (pv 0) (pa_cons (pe_bltn (v := .ty "bool") (by rfl) (E.fr "bool") (by decide +kernel) rfl) pa_nil))) (pe_callB call_isi (by rfl) (E.fr "isinstance") (by decide +kernel) (pa_cons (pv 1) (pa_cons (pe_bltn (v := .ty "bool") (by rfl) (E.fr "bool") (by decide +kernel) rfl) pa_nil))) (nomark _)) (pw_or1 (pt_cmpR op_ne (pe_callB call_isi (by rfl) (E.fr "isinstance") (by decide +kernel) (pa_cons (pv 0) (pa_cons (pe_bltn (v := .ty "int") (by rfl) (E.fr "int") (by decide +kernel) rfl) pa_nil))) (pe_callB call_isi (by rfl) (E.fr "isinstance") (by decide +kernel) (pa_cons (pv 1) (pa_cons (pe_bltn (v := .ty "int") (by rfl) (E.fr "int") (by decide +kernel) rfl) pa_nil))) (nomark _)))))
        (pss_one (ps_ret pe_bl))
        pss_nil)
      (pss_one (ps_ret (pe_and (pe_cmpR op_eq (pe_callB call_isi (by rfl) (E.fr "isinstance") (by decide +kernel) (pa_cons (pv 0) (pa_cons (pe_bltn (v := .ty "str") (by rfl) (E.fr "str") (by decide +kernel) rfl) pa_nil))) (pe_callB call_isi (by rfl) (E.fr "isinstance") (by decide +kernel) (pa_cons (pv 1) (pa_cons (pe_bltn (v := .ty "str") (by rfl) (E.fr "str") (by decide +kernel) rfl) pa_nil))) (nomark _)) (pe_one (pe_cmpR op_eq (pv 0) (pv 1) (nomark _))))))))), ?_⟩
  obtain ⟨u, v, d, rfl, hu, hv, hd, hl, k⟩ := h
  rcases d with _ | bb | ii | ss | ds | ds | kv
  · -- none
    cases hv
    cases hu
    have t0 : TyX K H (V.non) (.type "NoneType") := .base .non
    refine ⟨_, rfl, _, _, _, _, false, rfl, .ty _, t0, kit_ty (by decide +kernel), _, rfl, ?_⟩
    refine ite_f rfl ⟨_, rfl, _, _, _, _, false, rfl, .ty _, t0, kit_ty (by decide +kernel), _, rfl, ?_⟩
    refine ite_f rfl ⟨_, rfl, rfl, _, rfl, ?_⟩
    refine ⟨_, rfl, rfl, _, rfl, ?_⟩
    refine ite_t rfl ⟨_, rfl, rfl, ?_⟩
    exact k H (Same.refl H)
  · -- bool
    cases hv
    cases hu
    have t0 : TyX K H (V.bl bb) (.type "bool") := .base (.bl bb)
    refine ⟨_, rfl, _, _, _, _, false, rfl, .ty _, t0, kit_ty (by decide +kernel), _, rfl, ?_⟩
    refine ite_f rfl ⟨_, rfl, _, _, _, _, false, rfl, .ty _, t0, kit_ty (by decide +kernel), _, rfl, ?_⟩
    refine ite_f rfl ⟨_, rfl, rfl, _, rfl, ?_⟩
    refine ite_f rfl ⟨_, rfl, rfl, _, rfl, ?_⟩
    refine ite_f rfl ⟨_, rfl, _, _, _, _, true, rfl, .ty _, t0, kit_ty (by decide +kernel), _, rfl, _, _, _, _, true, rfl, .ty _, t0, kit_ty (by decide +kernel), rfl, _, rfl, ?_⟩
    refine ite_f rfl ⟨_, rfl, _, _, _, _, true, rfl, .ty _, t0, kit_ty (by decide +kernel), _, rfl, _, _, _, _, true, rfl, .ty _, t0, kit_ty (by decide +kernel), rfl, _, rfl, ?_⟩
    refine ite_f rfl ⟨_, rfl, _, _, _, _, false, rfl, .ty _, t0, kit_ty (by decide +kernel), _, rfl, _, _, _, _, false, rfl, .ty _, t0, kit_ty (by decide +kernel), rfl, _, rfl, ?_⟩
    refine ite_t rfl ⟨_, rfl, _, rfl, rfl, ?_⟩
    rw [decide_eq_true (Eq.refl _)]
    exact k H (Same.refl H)
  · -- int
    cases hv
    cases hu
    have t0 : TyX K H (V.int ii) (.type "int") := .base (.int ii)
    refine ⟨_, rfl, _, _, _, _, false, rfl, .ty _, t0, kit_ty (by decide +kernel), _, rfl, ?_⟩
    refine ite_f rfl ⟨_, rfl, _, _, _, _, false, rfl, .ty _, t0, kit_ty (by decide +kernel), _, rfl, ?_⟩
    refine ite_f rfl ⟨_, rfl, rfl, _, rfl, ?_⟩
    refine ite_f rfl ⟨_, rfl, rfl, _, rfl, ?_⟩
    refine ite_f rfl ⟨_, rfl, _, _, _, _, false, rfl, .ty _, t0, kit_ty (by decide +kernel), _, rfl, _, _, _, _, false, rfl, .ty _, t0, kit_ty (by decide +kernel), rfl, _, rfl, ?_⟩
    refine ite_f rfl ⟨_, rfl, _, _, _, _, true, rfl, .ty _, t0, kit_ty (by decide +kernel), _, rfl, _, _, _, _, true, rfl, .ty _, t0, kit_ty (by decide +kernel), rfl, _, rfl, ?_⟩
    refine ite_f rfl ⟨_, rfl, _, _, _, _, false, rfl, .ty _, t0, kit_ty (by decide +kernel), _, rfl, _, _, _, _, false, rfl, .ty _, t0, kit_ty (by decide +kernel), rfl, _, rfl, ?_⟩
    refine ite_t rfl ⟨_, rfl, _, rfl, rfl, ?_⟩
    rw [decide_eq_true (Eq.refl _)]
    exact k H (Same.refl H)
  · -- str
    cases hv
    cases hu
    have t0 : TyX K H (V.str ss) (.type "str") := .base (.str ss)
    refine ⟨_, rfl, _, _, _, _, false, rfl, .ty _, t0, kit_ty (by decide +kernel), _, rfl, ?_⟩
    refine ite_f rfl ⟨_, rfl, _, _, _, _, false, rfl, .ty _, t0, kit_ty (by decide +kernel), _, rfl, ?_⟩
    refine ite_f rfl ⟨_, rfl, rfl, _, rfl, ?_⟩
    refine ite_f rfl ⟨_, rfl, rfl, _, rfl, ?_⟩
    refine ite_f rfl ⟨_, rfl, _, _, _, _, false, rfl, .ty _, t0, kit_ty (by decide +kernel), _, rfl, _, _, _, _, false, rfl, .ty _, t0, kit_ty (by decide +kernel), rfl, _, rfl, ?_⟩
    refine ite_f rfl ⟨_, rfl, _, _, _, _, false, rfl, .ty _, t0, kit_ty (by decide +kernel), _, rfl, _, _, _, _, false, rfl, .ty _, t0, kit_ty (by decide +kernel), rfl, _, rfl, ?_⟩
    refine ite_f rfl ⟨_, rfl, _, _, _, _, true, rfl, .ty _, t0, kit_ty (by decide +kernel), _, rfl, _, _, _, _, true, rfl, .ty _, t0, kit_ty (by decide +kernel), rfl, _, rfl, ?_⟩
    refine ite_t rfl ⟨_, rfl, _, rfl, rfl, ?_⟩
    rw [decide_eq_true (Eq.refl _)]
    exact k H (Same.refl H)
  · -- a list
    cases hv with
    | lst hv1 hv2 =>
    cases hu with
    | lst hu1 hu2 =>
    rename_i a xs b ys
    have tu := tyL hu1
    have tv := tyL hv1
    have hl := small_ofL hl
    have h0 : PyData.depthAll ds < n := by
      rw [PyData.depth] at hd
      omega
    have l1 := DpAll.length hu2
    have l2 := DpAll.length hv2
    refine ⟨_, rfl, _, _, _, _, true, rfl, .ty _, tv, kit_ty (by decide +kernel), _, rfl, ?_⟩
    refine ⟨_, rfl, _, _, _, _, true, rfl, .ty _, tu, kit_ty (by decide +kernel), _, rfl, _, _, _, _, true, rfl, .ty _, tv, kit_ty (by decide +kernel), rfl, _, rfl, ?_⟩
    refine ite_f rfl ⟨_, rfl, _, _, _, _, false, rfl, .ty _, tu, kit_ty (by decide +kernel), _, rfl, _, _, _, _, false, rfl, .ty _, tv, kit_ty (by decide +kernel), rfl, _, rfl, ?_⟩
    refine ite_f rfl ?_
    -- len(found) == len(due) and all([..])
    refine ⟨_, rfl, _, _, rfl, (.inl hu1), _, rfl, _, _, rfl, (.inl hv1), rfl, _, rfl, ?_⟩
    refine ite_t (decide_eq_true (by rw [l1, l2])) ?_
    refine ⟨_, rfl, _, rfl, _, _, _, _, rfl, (.inl ⟨hu1, hv1, fun D hD => ?_⟩)⟩
    refine lc_it (walk_zip (n := ds.length) (by rw [l1, l2, Nat.min_self])) (fun i H' => Same H H' ∧ H' D = some (.lst (List.replicate i (V.bl true)))) ⟨same_new hD, upd_same⟩ (fun i H' _ q => ⟨q.1.seq hu1, q.1.seq hv1⟩) ?_ ?_
    · rintro i x H2 H3 hi ⟨e2, g2⟩ ⟨T, u1, v1, rfl, hT, rfl, q1, q2⟩
      have e3 : Same H (upd H2 T (.tup [u1, v1])) := e2.trans (same_new hT)
      obtain ⟨d1, r1, s1⟩ := DpAll.get hu2 q1
      obtain ⟨d2, r2, s2⟩ := DpAll.get hv2 q2
      have ed : d2 = d1 := Option.some.inj (r2.symm.trans r1)
      subst ed
      refine ⟨T, _, rfl, SqT.of upd_same, rfl, _, _, rfl, _, _, rfl, rfl, rfl, ?_⟩
      refine ⟨_, rfl, _, rfl, u1, v1, d2, rfl, Dp.same e3 s1, Dp.same e3 s2, Nat.lt_of_le_of_lt (depth_get r1) h0, hl.2 r1, fun H4 e4 => ?_⟩
      refine ⟨_, e4 _ _ (by rw [upd_ne (ne_of_none g2 hT)]; exact g2), ?_, same_mut (e3.trans e4) hD, ?_⟩
      · rw [List.length_replicate]
        exact szl (Nat.lt_of_lt_of_le hi (Nat.le_trans hl.1 (by decide)))
      · rw [upd_same, List.replicate_succ']
    · rintro H2 ⟨e2, g2⟩
      refine ⟨D, List.replicate ds.length true, rfl, SqL.of (by rw [List.map_replicate]; exact g2), ?_⟩
      rw [show (List.replicate ds.length true).all id = true by simp]
      exact k H2 e2
  · -- a tuple
    cases hv with
    | tup hv1 hv2 =>
    cases hu with
    | tup hu1 hu2 =>
    rename_i a xs b ys
    have tu := tyT hu1
    have tv := tyT hv1
    have hl := small_ofT hl
    have h0 : PyData.depthAll ds < n := by
      rw [PyData.depth] at hd
      omega
    have l1 := DpAll.length hu2
    have l2 := DpAll.length hv2
    refine ⟨_, rfl, _, _, _, _, false, rfl, .ty _, tv, kit_ty (by decide +kernel), _, rfl, ?_⟩
    refine ite_f rfl ⟨_, rfl, _, _, _, _, true, rfl, .ty _, tv, kit_ty (by decide +kernel), _, rfl, ?_⟩
    refine ⟨_, rfl, _, _, _, _, false, rfl, .ty _, tu, kit_ty (by decide +kernel), _, rfl, _, _, _, _, false, rfl, .ty _, tv, kit_ty (by decide +kernel), rfl, _, rfl, ?_⟩
    refine ite_f rfl ⟨_, rfl, _, _, _, _, true, rfl, .ty _, tu, kit_ty (by decide +kernel), _, rfl, _, _, _, _, true, rfl, .ty _, tv, kit_ty (by decide +kernel), rfl, _, rfl, ?_⟩
    refine ite_f rfl ?_
    -- len(found) == len(due) and all([..])
    refine ⟨_, rfl, _, _, rfl, (.inr hu1), _, rfl, _, _, rfl, (.inr hv1), rfl, _, rfl, ?_⟩
    refine ite_t (decide_eq_true (by rw [l1, l2])) ?_
    refine ⟨_, rfl, _, rfl, _, _, _, _, rfl, (.inr ⟨hu1, hv1, fun D hD => ?_⟩)⟩
    refine lc_it (walk_zipT (n := ds.length) (by rw [l1, l2, Nat.min_self])) (fun i H' => Same H H' ∧ H' D = some (.lst (List.replicate i (V.bl true)))) ⟨same_new hD, upd_same⟩ (fun i H' _ q => ⟨seqT q.1 hu1, seqT q.1 hv1⟩) ?_ ?_
    · rintro i x H2 H3 hi ⟨e2, g2⟩ ⟨T, u1, v1, rfl, hT, rfl, q1, q2⟩
      have e3 : Same H (upd H2 T (.tup [u1, v1])) := e2.trans (same_new hT)
      obtain ⟨d1, r1, s1⟩ := DpAll.get hu2 q1
      obtain ⟨d2, r2, s2⟩ := DpAll.get hv2 q2
      have ed : d2 = d1 := Option.some.inj (r2.symm.trans r1)
      subst ed
      refine ⟨T, _, rfl, SqT.of upd_same, rfl, _, _, rfl, _, _, rfl, rfl, rfl, ?_⟩
      refine ⟨_, rfl, _, rfl, u1, v1, d2, rfl, Dp.same e3 s1, Dp.same e3 s2, Nat.lt_of_le_of_lt (depth_get r1) h0, hl.2 r1, fun H4 e4 => ?_⟩
      refine ⟨_, e4 _ _ (by rw [upd_ne (ne_of_none g2 hT)]; exact g2), ?_, same_mut (e3.trans e4) hD, ?_⟩
      · rw [List.length_replicate]
        exact szl (Nat.lt_of_lt_of_le hi (Nat.le_trans hl.1 (by decide)))
      · rw [upd_same, List.replicate_succ']
    · rintro H2 ⟨e2, g2⟩
      refine ⟨D, List.replicate ds.length true, rfl, SqL.of (by rw [List.map_replicate]; exact g2), ?_⟩
      rw [show (List.replicate ds.length true).all id = true by simp]
      exact k H2 e2
  · cases hu
theorem same_none (E : En K mg) : Good P w K mg base CX0 0 "_law_same" ["found", "due"] (spSame 0 K) := by
  obtain ⟨fd, F⟩ := E.says.def_ 8 (d := d__law_same) rfl
  have no : ∀ vs H Q E', ¬ spSame 0 K vs H Q E' := fun vs H Q E' h => by
    obtain ⟨u, v, d, _, _, _, hd, _⟩ := h
    omega
  exact ⟨fd, ⟨fun vs H Q E' h => absurd h (no vs H Q E'), fun A outer s H args us vs Q E' _ _ _ _ h => absurd h (no vs H Q E')⟩, F.bindsN fun _ _ _ _ _ _ us hl => match us, hl with | [_, _], _ => rfl, F.kp, E.gl "_law_same"⟩
theorem same_all (E : En K mg) : ∀ n : Nat, Good P w K mg base CX0 n "_law_same" ["found", "due"] (spSame n K)
  | 0 => same_none E
  | n + 1 => same_step E (same_all E n)
theorem ok__law_same (E : En K mg) : Good P w K mg base CX0 12 "_law_same" ["found", "due"] (sp__law_same K) := same_all E 12


/-! ### _law_gcd -/
def sp__law_gcd (K : PySem.W.Frag) : Sp := fun vs H Q _ => ∃ x y : Nat, vs = [.int (x : Int), .int (y : Int)] ∧ Q (.int ((Nat.gcd x y : Nat) : Int)) H

theorem sc__law_gcd : FnScope ["x", "y"] ["x", "y"] (defScope s__law_gcd) := ⟨rfl, rfl, rfl, by decide +kernel, rfl, by decide +kernel, by decide +kernel⟩
theorem ok__law_gcd (E : En K mg) : Good P w K mg base CX0 1 "_law_gcd" ["x", "y"] (sp__law_gcd K) := by
  obtain ⟨fd, F⟩ := E.says.def_ 9 (d := d__law_gcd) rfl
  refine ⟨fd, ?_, F.bindsN fun _ _ _ _ _ _ us hl => match us, hl with | [_, _], _ => rfl, F.kp, E.gl "_law_gcd"⟩
  refine F.ok sc__law_gcd (fun vs H Q E' h => ?_) (fun cdv A outer s H vs Q E' hr h => ?_)
  · obtain ⟨x, y, rfl, _⟩ := h; rfl
  · have hu64 := hu64_of hr
    refine ⟨_, PSs.nox (pss_cons (ps_while PassesOwn.never (pt_cmpR op_gt (pv 1) pe_int (nomark _))
        (pss_one (ps_par (i := 0) (j := 1) rfl sc__law_gcd.nd rfl rfl (by decide) rfl rfl (pa_cons (pv 1) (pa_cons (pe_op op_mod (pe_callTy call_int1 (by rfl) (E.fr "int") (by decide +kernel) (pa_cons (pv 0) pa_nil)) (pv 1)) pa_nil)) rfl)))
      (pss_one (ps_ret (pv 0)))), ?_⟩
    obtain ⟨x, y, rfl, k⟩ := h
    refine ⟨fun m σ H' => ∃ a b : Nat, m = b ∧ σ = [some (.int (a : Int)), some (.int (b : Int))] ∧ H' = H ∧ Nat.gcd a b = Nat.gcd x y, ⟨y, x, y, rfl, rfl, rfl, rfl⟩, ?_⟩
    rintro m σ H' ⟨a, b, rfl, rfl, rfl, hg⟩
    refine ⟨_, rfl, _, _, rfl, rfl, _, rfl, ?_⟩
    refine ite2 (fun c => ?_) (fun c => ?_)
    · have c' : (0 : Int) < (m : Int) := of_decide_eq_true c
      refine ⟨fun σ' H'' => ∃ m', m' < m ∧ ∃ a b : Nat, m' = b ∧ σ' = [some (.int (a : Int)), some (.int (b : Int))] ∧ H'' = H' ∧ Nat.gcd a b = Nat.gcd x y, fun _ _ q => q, ?_⟩
      refine ⟨_, rfl, _, rfl, .inl ⟨_, rfl, _, rfl, _, _, rfl, rfl, c', _, _, rfl, ?_⟩⟩
      refine ⟨a % m, Nat.mod_lt _ (by omega), m, a % m, rfl, ?_, rfl, ?_⟩
      · show [some (V.int (m : Int)), some (V.int ((a : Int) % (m : Int)))] = _
        rw [Int.natCast_emod]
      · rw [← hg, Nat.gcd_comm m, Nat.gcd_comm a m, ← Nat.gcd_rec]
    · have c' : ¬ (0 : Int) < (m : Int) := of_decide_eq_false (Bool.eq_false_iff.mpr c)
      have e : m = 0 := by omega
      subst e
      rw [Nat.gcd_zero_right] at hg
      refine ⟨_, rfl, ?_⟩
      show Q (.int (a : Int)) H'
      rw [hg]
      exact k

/-! ### _law_bottom -/
def sp__law_bottom (K : PySem.W.Frag) : Sp := fun vs H Q _ => ∃ (v : V) (x y : Nat), vs = [v] ∧ PairAt K H v x y ∧ Q (.str (bot x y)) H

theorem sc__law_bottom : FnScope ["pair"] ["pair"] (defScope s__law_bottom) := ⟨rfl, rfl, rfl, by decide +kernel, rfl, by decide +kernel, by decide +kernel⟩
theorem ok__law_bottom (E : En K mg) : Good P w K mg base CX0 1 "_law_bottom" ["pair"] (sp__law_bottom K) := by
  obtain ⟨fd, F⟩ := E.says.def_ 10 (d := d__law_bottom) rfl
  refine ⟨fd, ?_, F.bindsN fun _ _ _ _ _ _ us hl => match us, hl with | [_], _ => rfl, F.kp, E.gl "_law_bottom"⟩
  refine F.ok sc__law_bottom (fun vs H Q E' h => ?_) (fun cdv A outer s H vs Q E' hr h => ?_)
  · obtain ⟨v, x, y, rfl, _⟩ := h; rfl
  · have hu64 := hu64_of hr
    refine ⟨_, PSs.nox (pss_cons (ps_if (pt_cmpR op_eq (pe_ix ix_tup (pv 0) pe_int (fun _ _ => rfl)) pe_int (nomark _))
        (pss_one (ps_ret pe_str))
        pss_nil)
      (pss_one (ps_ret (pe_ifExp (pt_cmpR op_eq (pe_ix ix_tup (pv 0) pe_int (fun _ _ => rfl)) pe_int (nomark _)) pe_str pe_str)))), ?_⟩
    obtain ⟨v, x, y, rfl, ⟨a, rfl, hS⟩, q⟩ := h
    refine ⟨_, rfl, a, _, _, _, rfl, rfl, hS, at2_1 _ _, rfl, _, rfl, ?_⟩
    unfold bot at q
    by_cases hy : y = 0
    · rw [if_pos hy] at q
      exact ite_t (deq (by omega)) q
    · rw [if_neg hy] at q
      refine ite_f (dne (by omega)) ⟨_, rfl, a, _, _, _, rfl, rfl, hS, at2_0 _ _, rfl, _, rfl, ?_⟩
      by_cases hx : x = 0
      · rw [if_pos hx] at q
        exact ite_t (deq (by omega)) q
      · rw [if_neg hx] at q
        exact ite_f (dne (by omega)) q

/-! ### _law_runs -/
def sp__law_runs (K : PySem.W.Frag) : Sp := fun vs H Q _ => ∃ (v : V) (x y : Nat), vs = [v] ∧ PairAt K H v x y ∧ okP x y ∧
  ∀ (f : Addr) (us : List V) (H' : Hp), H f = none → Same H H' → H' f = some (.lst us) → DpAll K H' us ((R x y).map runD) → Q (.ref f) H'

theorem sc__law_runs : FnScope ["pair", "x", "y", "found"] ["pair"] (defScope s__law_runs) := ⟨rfl, rfl, rfl, by decide +kernel, rfl, by decide +kernel, by decide +kernel⟩
theorem ok__law_runs (E : En K mg) : Good P w K mg base CX0 1 "_law_runs" ["pair"] (sp__law_runs K) := by
  obtain ⟨fd, F⟩ := E.says.def_ 11 (d := d__law_runs) rfl
  refine ⟨fd, ?_, F.bindsN fun _ _ _ _ _ _ us hl => match us, hl with | [_], _ => rfl, F.kp, E.gl "_law_runs"⟩
  refine F.ok sc__law_runs (fun vs H Q E' h => ?_) (fun cdv A outer s H vs Q E' hr h => ?_)
  · obtain ⟨v, x, y, rfl, _⟩ := h; rfl
  · have hu64 := hu64_of hr
    refine ⟨_, PSs.nox (pss_cons (ps_asg (pv 0) (pg_tup rfl (pgs_cons (pg_name (i := 1) sc__law_runs.nd rfl (by first | exact Or.inl rfl | exact Or.inr rfl)) (pgs_cons (pg_name (i := 2) sc__law_runs.nd rfl (by first | exact Or.inl rfl | exact Or.inr rfl)) pgs_nil))))
      (pss_cons (ps_set (i := 3) sc__law_runs.nd rfl (by first | exact Or.inl rfl | exact Or.inr rfl) (pe_lst pa_nil))
      (pss_cons (ps_while PassesOwn.never (PW.pt (pw_and (pt_cmpR op_gt (pv 1) pe_int (nomark _)) (pw_and (pt_cmpR op_gt (pv 2) pe_int (nomark _)) (pw_and1 (pt_cmpR op_ne (pv 1) (pv 2) (nomark _))))))
        (pss_one (ps_if (pt_cmpR op_gt (pv 1) (pv 2) (nomark _))
        (pss_cons (ps_expr (pe_bm PySem.F.plainAttrs_list PySem.F.slot_list_append PySem.F.type_list_append mt_append (pv 3) (pa_cons (pe_tup (pa_cons pe_str (pa_cons (pe_op op_fdivW (pe_op op_sub (pv 1) pe_int) (pv 2)) pa_nil))) pa_nil)))
      (pss_one (ps_set (i := 1) sc__law_runs.nd rfl (by first | exact Or.inl rfl | exact Or.inr rfl) (pe_op op_sub (pv 1) (pe_op op_mulW (pe_ix ix_tup (pe_ix ix_list (pv 3) (pe_un un_neg pe_int) (fun _ _ => rfl)) pe_int (fun _ _ => rfl)) (pv 2))))))
        (pss_cons (ps_expr (pe_bm PySem.F.plainAttrs_list PySem.F.slot_list_append PySem.F.type_list_append mt_append (pv 3) (pa_cons (pe_tup (pa_cons pe_str (pa_cons (pe_op op_fdivW (pe_op op_sub (pv 2) pe_int) (pv 1)) pa_nil))) pa_nil)))
      (pss_one (ps_set (i := 2) sc__law_runs.nd rfl (by first | exact Or.inl rfl | exact Or.inr rfl) (pe_op op_sub (pv 2) (pe_op op_mulW (pe_ix ix_tup (pe_ix ix_list (pv 3) (pe_un un_neg pe_int) (fun _ _ => rfl)) pe_int (fun _ _ => rfl)) (pv 1)))))))))
      (pss_one (ps_ret (pv 3)))))), ?_⟩
    obtain ⟨v, x, y, rfl, hP, ok, k⟩ := h
    have e1 : Same H H := Same.refl H
    obtain ⟨a, rfl, hS⟩ := hP
    refine ⟨_, rfl, a, _, rfl, seqT e1 hS, rfl, _, _, rfl, _, _, rfl, rfl, (by show 0 ≤ sizeLine; decide), fun f hf => ?_⟩
    have hf0 : H f = none := Same.free e1 hf
    refine ⟨fun m σ H' => ∃ (i j : Nat) (acc : List (Bool × Nat)) (us : List V), m = i + j ∧ σ = [some (.ref a), some (.int (i : Int)), some (.int (j : Int)), some (.ref f)] ∧ acc ++ R i j = R x y ∧ i < 2 ^ 4000 ∧ j < 2 ^ 4000 ∧ Same H H' ∧ H' f = some (.lst us) ∧ DpAll K H' us (acc.map runD),
      ⟨x + y, x, y, [], [], rfl, rfl, rfl, ok.2.1, ok.2.2, same_mut e1 hf0, upd_same, .nil⟩, ?_⟩
    rintro m σ H' ⟨i, j, acc, us, rfl, rfl, hR, hi, hj, e, hF, hD⟩
    have fin : R i j = [] → Q (.ref f) H' := fun z => by
      rw [z, List.append_nil] at hR
      rw [hR] at hD
      exact k f us H' hf0 e hF hD
    have hlen : us.length < sizeLine := by
      have h1 := DpAll.length hD
      rw [List.length_map] at h1
      have h2 := R_len' ok
      rw [← hR, List.length_append] at h2
      exact szl (by omega)
    -- the turn's end: a run more
    have more : ∀ (b : Bool) (n i' j' : Nat) (p : Addr), H' p = none → i' + j' < i + j → R i j = (b, n) :: R i' j' → i' < 2 ^ 4000 → j' < 2 ^ 4000 →     ∃ m', m' < i + j ∧ ∃ (i j : Nat) (acc : List (Bool × Nat)) (us' : List V), m' = i + j ∧ [some (V.ref a), some (.int (i' : Int)), some (.int (j' : Int)), some (.ref f)] = [some (.ref a), some (.int (i : Int)), some (.int (j : Int)), some (.ref f)] ∧ acc ++ R i j = R x y ∧ i < 2 ^ 4000 ∧ j < 2 ^ 4000 ∧ Same H (upd (upd H' p (.tup [.str (letS b), .int (n : Int)])) f (.lst (us ++ [.ref p]))) ∧ (upd (upd H' p (.tup [.str (letS b), .int (n : Int)])) f (.lst (us ++ [.ref p]))) f = some (.lst us') ∧ DpAll K (upd (upd H' p (.tup [.str (letS b), .int (n : Int)])) f (.lst (us ++ [.ref p]))) us' (acc.map runD) := fun b n i' j' p hp hm hr h1 h2 => by
      have nf : f ≠ p := ne_of_none hF hp
      have hF2 : (upd H' p (.tup [.str (letS b), .int (n : Int)])) f = some (.lst us) := by rw [upd_ne nf]; exact hF
      have t1 : SameT H' (upd (upd H' p (.tup [.str (letS b), .int (n : Int)])) f (.lst (us ++ [.ref p]))) := (SameT.new hp).trans (.put hF2)
      refine ⟨i' + j', hm, i', j', acc ++ [(b, n)], us ++ [.ref p], rfl, rfl, ?_, h1, h2, same_mut (e.trans (same_new hp)) hf0, upd_same, ?_⟩
      · rw [List.append_assoc, ← hR, hr]
        rfl
      · rw [List.map_append]
        refine DpAll.append (Dp.sameTs t1 (noLs_map noL_runD acc) hD) (DpAll.one (.tup (SqT.of ?_) (.cons (.str _) (.cons (.int _) .nil))))
        rw [upd_ne nf.symm, upd_same]
    -- while x > 0 and y > 0 and x != y
    refine ⟨_, rfl, _, _, rfl, rfl, _, rfl, ?_⟩
    by_cases c2 : 0 < i
    rotate_left
    · exact ite_f (decide_eq_false (by omega)) (ite_f rfl ⟨_, rfl, fin (R_nil (by omega))⟩)
    refine ite_t (decide_eq_true (by omega)) ⟨_, rfl, _, _, rfl, rfl, _, rfl, ?_⟩
    by_cases c3 : 0 < j
    rotate_left
    · exact ite_f (decide_eq_false (by omega)) (ite_f rfl ⟨_, rfl, fin (R_nil (by omega))⟩)
    refine ite_t (decide_eq_true (by omega)) ⟨_, rfl, _, rfl, rfl, _, rfl, ?_⟩
    by_cases c1 : i = j
    · exact ite_f (by rw [deq (by omega)]; rfl) ⟨_, rfl, fin (R_nil (by omega))⟩
    refine ite_t (by rw [dne (by omega)]; rfl) ⟨fun σ' H'' => ∃ m', m' < i + j ∧ ∃ (i j : Nat) (acc : List (Bool × Nat)) (us : List V), m' = i + j ∧ σ' = [some (.ref a), some (.int (i : Int)), some (.int (j : Int)), some (.ref f)] ∧ acc ++ R i j = R x y ∧ i < 2 ^ 4000 ∧ j < 2 ^ 4000 ∧ Same H H'' ∧ H'' f = some (.lst us) ∧ DpAll K H'' us (acc.map runD), fun _ _ q => q, ?_⟩
    -- if x > y
    refine ⟨_, rfl, _, rfl, _, _, rfl, rfl, _, rfl, ?_⟩
    refine ite2 (fun c4 => ?_) (fun c4 => ?_)
    · have c5 : i > j := by
        have q : (j : Int) < (i : Int) := of_decide_eq_true c4
        omega
      have d := dm_lt c3 c5
      have hq : (i - 1) / j < 2 ^ 4000 := Nat.lt_of_le_of_lt (Nat.le_trans (Nat.div_le_self _ _) (Nat.sub_le _ _)) hi
      refine ⟨_, rfl, .inl ⟨rfl, _, SqL.of hF⟩, _, rfl, _, _, rfl, rfl, _, rfl, _, _, rfl, rfl, okDiv c3 hj, ?_⟩
      dsimp only; rw [cast_div c2]
      refine ⟨(by show 2 ≤ sizeLine; decide), fun p hp => ?_⟩
      have nf : f ≠ p := ne_of_none hF hp
      refine ⟨f, us, .ref p, rfl, rfl, (by rw [upd_ne nf]; exact hF), hlen, ?_⟩
      refine ⟨_, rfl, _, rfl, _, rfl, f, _, _, _, rfl, rfl, SqL.of upd_same, atI_last us _, p, _, _, _, rfl, rfl, SqT.of (by rw [upd_ne nf.symm, upd_same]), at2_1 _ _, _, rfl, _, _, rfl, rfl, okMul hq hj, _, _, rfl, rfl, ?_⟩
      dsimp only; rw [cast_sub]
      exact more true ((i - 1) / j) _ j p hp (by omega) (R_x c3 c5) (Nat.lt_trans d.1 hi) hj
    · have c5 : j > i := by
        have q : ¬ (j : Int) < (i : Int) := of_decide_eq_false (Bool.eq_false_iff.mpr c4)
        omega
      have d := dm_lt c2 c5
      have hq : (j - 1) / i < 2 ^ 4000 := Nat.lt_of_le_of_lt (Nat.le_trans (Nat.div_le_self _ _) (Nat.sub_le _ _)) hj
      refine ⟨_, rfl, .inl ⟨rfl, _, SqL.of hF⟩, _, rfl, _, _, rfl, rfl, _, rfl, _, _, rfl, rfl, okDiv c2 hi, ?_⟩
      dsimp only; rw [cast_div c3]
      refine ⟨(by show 2 ≤ sizeLine; decide), fun p hp => ?_⟩
      have nf : f ≠ p := ne_of_none hF hp
      refine ⟨f, us, .ref p, rfl, rfl, (by rw [upd_ne nf]; exact hF), hlen, ?_⟩
      refine ⟨_, rfl, _, rfl, _, rfl, f, _, _, _, rfl, rfl, SqL.of upd_same, atI_last us _, p, _, _, _, rfl, rfl, SqT.of (by rw [upd_ne nf.symm, upd_same]), at2_1 _ _, _, rfl, _, _, rfl, rfl, okMul hq hi, _, _, rfl, rfl, ?_⟩
      dsimp only; rw [cast_sub]
      exact more false ((j - 1) / i) i _ p hp (by omega) (R_y c2 c5) hi (Nat.lt_trans d.1 hj)

/-! ### _law_far_pair -/
/-- some pair with runs of up to 10 ** 12 + 1000 letters; the bag alone has changed -/
def sp__law_far_pair (K : PySem.W.Frag) : Sp := fun vs H Q _ => ∃ b : Addr, vs = [.ref b] ∧ Bag H b ∧
  ∀ (v : V) (x y : Nat) (H' : Hp), PairAt K H' v x y → okP x y → (x < 2 ^ 3000 ∧ y < 2 ^ 3000) → Bag H' b → Kp b H H' → Q v H'
def farMid (b : Addr) (H : Hp) : L2.St → Hp → Prop := fun σ H' => ∃ (w k c : Option V) (x y : Nat), σ = [some (.ref b), w, some (.int (x : Int)), some (.int (y : Int)), k, c] ∧ okP x y ∧ (x < 2 ^ 3000 ∧ y < 2 ^ 3000) ∧ Bag H' b ∧ Kp b H H'
theorem far_step {x y c i : Nat} (hx : x < 2 ^ (10 + 50 * i)) (hy : y < 2 ^ (10 + 50 * i)) (hc : c < 2 ^ 41) : x + c * y < 2 ^ (10 + 50 * (i + 1)) := by
  have e : 10 + 50 * (i + 1) = (10 + 50 * i) + 50 := by omega
  rw [e, Nat.pow_add]
  have h1 : c * y ≤ 2 ^ 41 * 2 ^ (10 + 50 * i) := Nat.mul_le_mul (Nat.le_of_lt hc) (Nat.le_of_lt hy)
  have h2 : 0 < 2 ^ (10 + 50 * i) := Nat.pow_pos (by decide)
  omega
theorem far_mono {x i : Nat} (h : x < 2 ^ (10 + 50 * i)) : x < 2 ^ (10 + 50 * (i + 1)) := Nat.lt_of_lt_of_le h (Nat.pow_le_pow_right (by decide) (by omega))
theorem far_counts {xs : List V} {r1 r2 : Int} {j : Nat} {v : V} (e : xs = [.int 1, .int 2, .int 3, .int 7, .int (10 ^ (12 : Int).toNat + r1), .int (10 ^ (8 : Int).toNat + r2)]) (h : xs[j]? = some v) (a1 : 0 ≤ r1) (a2 : r1 < 1000) (b1 : 0 ≤ r2) (b2 : r2 < 97) :
    ∃ c : Nat, v = .int (c : Int) ∧ 0 < c ∧ c < 2 ^ 41 := by
  have e1 : (10 : Int) ^ (12 : Int).toNat = 1000000000000 := by decide
  have e2 : (10 : Int) ^ (8 : Int).toNat = 100000000 := by decide
  rw [e1, e2] at e
  subst e
  have ok : ∀ z : Int, 0 < z → z < 2199023255552 → V.int z = v → ∃ c : Nat, v = .int (c : Int) ∧ 0 < c ∧ c < 2 ^ 41 := fun z h1 h2 e => ⟨z.toNat, by rw [← e, show ((z.toNat : Nat) : Int) = z by omega], by omega, by omega⟩
  match j, h with
  | 0, h => exact ok _ (by omega) (by omega) (Option.some.inj h)
  | 1, h => exact ok _ (by omega) (by omega) (Option.some.inj h)
  | 2, h => exact ok _ (by omega) (by omega) (Option.some.inj h)
  | 3, h => exact ok _ (by omega) (by omega) (Option.some.inj h)
  | 4, h => exact ok _ (by omega) (by omega) (Option.some.inj h)
  | 5, h => exact ok _ (by omega) (by omega) (Option.some.inj h)
theorem two_words {j : Nat} {v : V} (h : ([.str "flat", .str "steep"] : List V)[j]? = some v) : ∃ z : Str, v = .str z := by
  match j, h with
  | 0, h => exact ⟨_, (Option.some.inj h).symm⟩
  | 1, h => exact ⟨_, (Option.some.inj h).symm⟩

theorem sc__law_far_pair : FnScope ["bag", "word", "x", "y", "k", "count"] ["bag"] (defScope s__law_far_pair) := ⟨rfl, rfl, rfl, by decide +kernel, rfl, by decide +kernel, by decide +kernel⟩
theorem ok__law_far_pair (E : En K mg) (G__law_pull : Good P w K mg base CX0 1 "_law_pull" ["bag", "amount"] (sp__law_pull K)) (G__law_of : Good P w K mg base CX0 2 "_law_of" ["bag", "things"] (sp__law_of K)) : Good P w K mg base CX0 3 "_law_far_pair" ["bag"] (sp__law_far_pair K) := by
  obtain ⟨fd, F⟩ := E.says.def_ 12 (d := d__law_far_pair) rfl
  refine ⟨fd, ?_, F.bindsN fun _ _ _ _ _ _ us hl => match us, hl with | [_], _ => rfl, F.kp, E.gl "_law_far_pair"⟩
  refine F.ok sc__law_far_pair (fun vs H Q E' h => ?_) (fun cdv A outer s H vs Q E' hr h => ?_)
  · obtain ⟨b, rfl, _⟩ := h; rfl
  · have hu64 := hu64_of hr
    refine ⟨_, PSs.nox (pss_cons (ps_set (i := 1) sc__law_far_pair.nd rfl (by first | exact Or.inl rfl | exact Or.inr rfl) pe_str)
      (pss_cons (ps_set (i := 2) sc__law_far_pair.nd rfl (by first | exact Or.inl rfl | exact Or.inr rfl) (pe_op op_add pe_int (pe_G G__law_pull (hr.mono (by decide)) rfl pass0 (pa_cons (pv 0) (pa_cons pe_int pa_nil)))))
      (pss_cons (ps_set (i := 3) sc__law_far_pair.nd rfl (by first | exact Or.inl rfl | exact Or.inr rfl) (pv 2))
      (pss_cons (ps_for PassesOwn.never rfl (pi_range1 rfl (E.fr "range") (pa_cons (pe_G G__law_pull (hr.mono (by decide)) rfl pass0 (pa_cons (pv 0) (pa_cons pe_int pa_nil))) pa_nil)) (pg_name (i := 4) sc__law_far_pair.nd rfl (by first | exact Or.inl rfl | exact Or.inr rfl))
        (pss_cons (ps_set (i := 5) sc__law_far_pair.nd rfl (by first | exact Or.inl rfl | exact Or.inr rfl) (pe_G G__law_of (hr.mono (by decide)) rfl pass0 (pa_cons (pv 0) (pa_cons (pe_lst (pa_cons pe_int (pa_cons pe_int (pa_cons pe_int (pa_cons pe_int (pa_cons (pe_op op_add (pe_op op_pow pe_int pe_int) (pe_G G__law_pull (hr.mono (by decide)) rfl pass0 (pa_cons (pv 0) (pa_cons pe_int pa_nil)))) (pa_cons (pe_op op_add (pe_op op_pow pe_int pe_int) (pe_G G__law_pull (hr.mono (by decide)) rfl pass0 (pa_cons (pv 0) (pa_cons pe_int pa_nil)))) pa_nil))))))) pa_nil))))
      (pss_one (ps_if (pt_cmpR op_eq (pe_op op_mod (pe_callTy call_int1 (by rfl) (E.fr "int") (by decide +kernel) (pa_cons (pv 4) pa_nil)) pe_int) pe_int (nomark _))
        (pss_one (ps_set (i := 2) sc__law_far_pair.nd rfl (by first | exact Or.inl rfl | exact Or.inr rfl) (pe_op op_add (pv 2) (pe_op op_mul (pv 5) (pv 3)))))
        (pss_one (ps_set (i := 3) sc__law_far_pair.nd rfl (by first | exact Or.inl rfl | exact Or.inr rfl) (pe_op op_add (pv 3) (pe_op op_mul (pv 5) (pv 2)))))))))
      (C8.pss_cut (ps_if (pt_cmpR op_eq (pe_G G__law_pull (hr.mono (by decide)) rfl pass0 (pa_cons (pv 0) (pa_cons pe_int pa_nil))) pe_int (nomark _))
        (pss_cons (ps_set (i := 1) sc__law_far_pair.nd rfl (by first | exact Or.inl rfl | exact Or.inr rfl) (pe_G G__law_of (hr.mono (by decide)) rfl pass0 (pa_cons (pv 0) (pa_cons (pe_lst (pa_cons pe_str (pa_cons pe_str pa_nil))) pa_nil))))
      (pss_one (ps_asg (pe_ifExp (pt_cmpR op_eq (pv 1) pe_str (nomark _)) (pe_tup (pa_cons (pv 2) (pa_cons pe_int pa_nil))) (pe_tup (pa_cons pe_int (pa_cons (pv 3) pa_nil)))) (pg_tup rfl (pgs_cons (pg_name (i := 2) sc__law_far_pair.nd rfl (by first | exact Or.inl rfl | exact Or.inr rfl)) (pgs_cons (pg_name (i := 3) sc__law_far_pair.nd rfl (by first | exact Or.inl rfl | exact Or.inr rfl)) pgs_nil))))))
        pss_nil)
      (pss_one (ps_ret (pe_ifExp (pt_cmpR op_eq (pe_G G__law_pull (hr.mono (by decide)) rfl pass0 (pa_cons (pv 0) (pa_cons pe_int pa_nil))) pe_int (nomark _)) (pe_tup (pa_cons (pv 2) (pa_cons (pv 3) pa_nil))) (pe_tup (pa_cons (pv 3) (pa_cons (pv 2) pa_nil))))))))))), ?_⟩
    obtain ⟨b, rfl, B, k⟩ := h
    refine ⟨_, rfl, b, _, rfl, B, by decide, by decide, fun r0 H1 r00 r01 B1 k1 => ⟨_, _, rfl, rfl, _, rfl, ?_⟩⟩
    refine ⟨_, rfl, b, _, rfl, B1, by decide, by decide, fun r1 H2 r10 r11 B2 k2 => ⟨_, rfl, by omega, by omega, ?_⟩⟩
    refine for_range (lo := 0) (n := r1.toNat) (fun i σ H' => ∃ (k c : Option V) (x y : Nat), σ = [some (.ref b), some (.str "even"), some (.int (x : Int)), some (.int (y : Int)), k, c] ∧ 0 < x ∧ 0 < y ∧ x < 2 ^ (10 + 50 * i) ∧ y < 2 ^ (10 + 50 * i) ∧ Bag H' b ∧ Kp b H H')
      ⟨none, none, (1 + r0).toNat, (1 + r0).toNat, ?_, by omega, by omega, by omega, by omega, B2, k1.trans k2⟩ ?_ ?_
    · rw [show (((1 + r0).toNat : Nat) : Int) = 1 + r0 by omega]
      rfl
    · rintro i σ H3 hi ⟨k', c, x, y, rfl, hx, hy, bx, bY, B3, k3⟩
      -- count = _law_of(bag, [..])
      refine ⟨_, rfl, _, _, rfl, rfl, ⟨by decide, by decide, by decide⟩, _, rfl, b, _, rfl, B3, by decide, by decide, fun r2 H4 r20 r21 B4 k4 => ⟨_, _, rfl, rfl, ?_⟩⟩
      refine ⟨_, _, rfl, rfl, ⟨by decide, by decide, by decide⟩, _, rfl, b, _, rfl, B4, by decide, by decide, fun r3 H5 r30 r31 B5 k5 => ⟨_, _, rfl, rfl, (by show 6 ≤ sizeLine; decide), fun t ht => ?_⟩⟩
      refine ⟨b, t, _, rfl, B5.keep (same_new ht), B5.ne ht, SqL.of upd_same, (by show 0 < 6; decide), (by show 6 ≤ 1000; decide), fun j v H6 hv B6 k6 => ?_⟩
      obtain ⟨cn, rfl, c0, c1⟩ := far_counts rfl hv r20 r21 r30 r31
      have kk : Kp b H H6 := k3.trans (k4.trans ((k5.new ht).trans k6))
      refine ⟨_, rfl, .inl ⟨_, rfl, _, _, rfl, rfl, (by show (0 : Int) < 2; decide), rfl, _, rfl, ?_⟩⟩
      refine ite2 (fun _ => ?_) (fun _ => ?_)
      · refine ⟨_, rfl, _, rfl, _, rfl, _, _, rfl, rfl, .inl ⟨by omega, by omega⟩, _, _, rfl, rfl, ?_⟩
        refine ⟨some (.int (0 + (i : Int))), some (.int (cn : Int)), x + cn * y, y, ?_, by omega, hy, far_step bx bY c1, far_mono bY, B6, kk⟩
        rw [Int.natCast_add, Int.natCast_mul]
        rfl
      · refine ⟨_, rfl, _, rfl, _, rfl, _, _, rfl, rfl, .inl ⟨by omega, by omega⟩, _, _, rfl, rfl, ?_⟩
        refine ⟨some (.int (0 + (i : Int))), some (.int (cn : Int)), x, y + cn * x, ?_, hx, by omega, far_mono bx, far_step bY bx c1, B6, kk⟩
        rw [Int.natCast_add, Int.natCast_mul]
        rfl
    · rintro σ H3 ⟨k', c, x, y, rfl, hx, hy, bx, bY, B3, k3⟩
      have big : ∀ z : Nat, z < 2 ^ (10 + 50 * r1.toNat) → z < 2 ^ 4000 := fun z h => Nat.lt_of_lt_of_le h (Nat.pow_le_pow_right (by decide) (by omega))
      have big3 : ∀ z : Nat, z < 2 ^ (10 + 50 * r1.toNat) → z < 2 ^ 3000 := fun z h => Nat.lt_of_lt_of_le h (Nat.pow_le_pow_right (by decide) (by omega))
      have p3 : 0 < 2 ^ 3000 := Nat.pow_pos (by decide)
      have okxy : okP x y := ⟨by omega, big x bx, big y bY⟩
      have bxy : x < 2 ^ 3000 ∧ y < 2 ^ 3000 := ⟨big3 x bx, big3 y bY⟩
      refine ⟨farMid b H, ?_, ?_⟩
      · refine ⟨_, rfl, b, _, rfl, B3, by decide, by decide, fun r4 H4 _ _ B4 k4 => ⟨rfl, _, rfl, ?_⟩⟩
        have k34 := k3.trans k4
        refine ite2 (fun _ => ?_) (fun _ => ⟨_, _, _, x, y, rfl, okxy, bxy, B4, k34⟩)
        refine ⟨_, rfl, (by show 2 ≤ sizeLine; decide), fun t ht => ?_⟩
        refine ⟨b, t, _, rfl, B4.keep (same_new ht), B4.ne ht, SqL.of upd_same, (by show 0 < 2; decide), (by show 2 ≤ 1000; decide), fun j v H5 hv B5 k5 => ?_⟩
        obtain ⟨z, rfl⟩ := two_words hv
        have k35 := (k34.new ht).trans k5
        refine ⟨_, rfl, rfl, _, rfl, ?_⟩
        refine ite2 (fun _ => ?_) (fun _ => ?_)
        · refine ⟨_, rfl, (by show 2 ≤ sizeLine; decide), fun p hp => ⟨p, _, rfl, SqT.of upd_same, rfl, _, _, rfl, _, _, rfl, rfl, ?_⟩⟩
          exact ⟨_, _, _, x, 0, rfl, ⟨by omega, okxy.2.1, Nat.pow_pos (by decide)⟩, ⟨bxy.1, p3⟩, B5.keep (same_new hp), k35.new hp⟩
        · refine ⟨_, rfl, (by show 2 ≤ sizeLine; decide), fun p hp => ⟨p, _, rfl, SqT.of upd_same, rfl, _, _, rfl, _, _, rfl, rfl, ?_⟩⟩
          exact ⟨_, _, _, 0, y, rfl, ⟨by omega, Nat.pow_pos (by decide), okxy.2.2⟩, ⟨p3, bxy.2⟩, B5.keep (same_new hp), k35.new hp⟩
      · rintro σ H4 ⟨w', k'', c', x, y, rfl, ok, b3, B4, k4⟩
        refine ⟨_, rfl, b, _, rfl, B4, by decide, by decide, fun r5 H5 _ _ B5 k5 => ⟨rfl, _, rfl, ?_⟩⟩
        refine ite2 (fun _ => ?_) (fun _ => ?_)
        · refine ⟨_, rfl, _, rfl, (by show 2 ≤ sizeLine; decide), fun p hp => ?_⟩
          exact k _ x y _ ⟨p, rfl, SqT.of upd_same⟩ ok b3 (B5.keep (same_new hp)) ((k4.trans k5).new hp)
        · refine ⟨_, rfl, _, rfl, (by show 2 ≤ sizeLine; decide), fun p hp => ?_⟩
          exact k _ y x _ ⟨p, rfl, SqT.of upd_same⟩ ⟨fun h => ok.1 ⟨h.2, h.1⟩, ok.2.2, ok.2.1⟩ b3.symm (B5.keep (same_new hp)) ((k4.trans k5).new hp)

/-! ### _law_pair -/
/-- some pair; the bag alone has changed -/
def sp__law_pair (K : PySem.W.Frag) : Sp := fun vs H Q _ => ∃ (b : Addr) (n : Nat), vs = [.ref b, .int (n : Int)] ∧ Bag H b ∧ 0 < n ∧ n < 100000 ∧
  ∀ (v : V) (x y : Nat) (H' : Hp), PairAt K H' v x y → ¬ (x = 0 ∧ y = 0) → x ≤ n + 3 → y ≤ n + 3 → Bag H' b → Kp b H H' → Q v H'

theorem sc__law_pair : FnScope ["bag", "top_z", "kind", "x", "y"] ["bag", "top_z"] (defScope s__law_pair) := ⟨rfl, rfl, rfl, by decide +kernel, rfl, by decide +kernel, by decide +kernel⟩
theorem ok__law_pair (E : En K mg) (G__law_pull : Good P w K mg base CX0 1 "_law_pull" ["bag", "amount"] (sp__law_pull K)) : Good P w K mg base CX0 2 "_law_pair" ["bag", "top_z"] (sp__law_pair K) := by
  obtain ⟨fd, F⟩ := E.says.def_ 13 (d := d__law_pair) rfl
  refine ⟨fd, ?_, F.bindsN fun _ _ _ _ _ _ us hl => match us, hl with | [_, _], _ => rfl, F.kp, E.gl "_law_pair"⟩
  refine F.ok sc__law_pair (fun vs H Q E' h => ?_) (fun cdv A outer s H vs Q E' hr h => ?_)
  · obtain ⟨b, n, rfl, _⟩ := h; rfl
  · have hu64 := hu64_of hr
    refine ⟨_, PSs.nox (pss_cons (ps_set (i := 2) sc__law_pair.nd rfl (by first | exact Or.inl rfl | exact Or.inr rfl) (pe_G G__law_pull (hr.mono (by decide)) rfl pass0 (pa_cons (pv 0) (pa_cons pe_int pa_nil))))
      (pss_cons (ps_par (i := 3) (j := 4) rfl sc__law_pair.nd rfl rfl (by decide) rfl rfl (pa_cons (pe_op op_add pe_int (pe_G G__law_pull (hr.mono (by decide)) rfl pass0 (pa_cons (pv 0) (pa_cons (pv 1) pa_nil)))) (pa_cons (pe_op op_add pe_int (pe_G G__law_pull (hr.mono (by decide)) rfl pass0 (pa_cons (pv 0) (pa_cons (pv 1) pa_nil)))) pa_nil)) rfl)
      (pss_cons (ps_if (pt_cmpR op_eq (pv 2) pe_int (nomark _))
        (pss_one (ps_ret (pe_tup (pa_cons (pv 3) (pa_cons pe_int pa_nil)))))
        pss_nil)
      (pss_cons (ps_if (pt_cmpR op_eq (pv 2) pe_int (nomark _))
        (pss_one (ps_ret (pe_tup (pa_cons pe_int (pa_cons (pv 4) pa_nil)))))
        pss_nil)
      (pss_cons (ps_if (pt_cmpR op_eq (pv 2) pe_int (nomark _))
        (pss_one (ps_ret (pe_tup (pa_cons (pv 3) (pa_cons (pv 3) pa_nil)))))
        pss_nil)
      (pss_cons (ps_if (pt_cmpR op_eq (pv 2) pe_int (nomark _))
        (pss_one (ps_ret (pe_tup (pa_cons (pv 3) (pa_cons (pe_op op_add pe_int (pe_G G__law_pull (hr.mono (by decide)) rfl pass0 (pa_cons (pv 0) (pa_cons pe_int pa_nil)))) pa_nil)))))
        pss_nil)
      (pss_cons (ps_if (pt_cmpR op_eq (pv 2) pe_int (nomark _))
        (pss_one (ps_ret (pe_tup (pa_cons (pe_op op_add pe_int (pe_G G__law_pull (hr.mono (by decide)) rfl pass0 (pa_cons (pv 0) (pa_cons pe_int pa_nil)))) (pa_cons (pv 4) pa_nil)))))
        pss_nil)
      (pss_one (ps_ret (pe_tup (pa_cons (pv 3) (pa_cons (pv 4) pa_nil)))))))))))), ?_⟩
    obtain ⟨b, n, rfl, B, hn, hn2, k⟩ := h
    refine ⟨_, rfl, b, _, rfl, B, by decide, by decide, fun r1 H1 _ _ B1 k1 => ?_⟩
    refine ⟨_, rfl, _, rfl, b, _, rfl, B1, by omega, by omega, fun x H2 x0 x1 B2 k2 => ⟨_, _, rfl, rfl, _, rfl, _, rfl, b, _, rfl, B2, by omega, by omega, fun y H3 y0 y1 B3 k3 => ⟨_, _, rfl, rfl, _, _, rfl, ?_⟩⟩⟩
    have kk := k1.trans (k2.trans k3)
    have fin : ∀ (X Y : Int) (H' : Hp), 0 ≤ X → 0 ≤ Y → X + Y ≠ 0 → X ≤ n + 3 → Y ≤ n + 3 → Bag H' b → Kp b H H' → ∀ p, H' p = none → Q (.ref p) (upd H' p (.tup [.int X, .int Y])) := fun X Y H' h1 h2 h3 h4 h5 B' k' p hp => by
      refine k _ X.toNat Y.toNat _ ⟨p, rfl, SqT.of ?_⟩ (by omega) (by omega) (by omega) (B'.keep (same_new hp)) (k'.new hp)
      rw [upd_same, show ((X.toNat : Nat) : Int) = X by omega, show ((Y.toNat : Nat) : Int) = Y by omega]
    have s2 : 2 ≤ sizeLine := by decide
    refine ⟨_, rfl, rfl, _, rfl, ?_⟩
    refine ite2 (fun _ => ⟨_, rfl, s2, fin _ _ H3 (by omega) (by omega) (by omega) (by omega) (by omega) B3 kk⟩) (fun _ => ?_)
    refine ⟨_, rfl, rfl, _, rfl, ?_⟩
    refine ite2 (fun _ => ⟨_, rfl, s2, fin _ _ H3 (by omega) (by omega) (by omega) (by omega) (by omega) B3 kk⟩) (fun _ => ?_)
    refine ⟨_, rfl, rfl, _, rfl, ?_⟩
    refine ite2 (fun _ => ⟨_, rfl, _, rfl, s2, fin _ _ H3 (by omega) (by omega) (by omega) (by omega) (by omega) B3 kk⟩) (fun _ => ?_)
    refine ⟨_, rfl, rfl, _, rfl, ?_⟩
    refine ite2 (fun _ => ⟨_, rfl, _, rfl, b, _, rfl, B3, by decide, by decide, fun z H4 z0 z1 B4 k4 => ⟨_, _, rfl, rfl, s2, fin _ _ H4 (by omega) (by omega) (by omega) (by omega) (by omega) B4 (kk.trans k4)⟩⟩) (fun _ => ?_)
    refine ⟨_, rfl, rfl, _, rfl, ?_⟩
    refine ite2 (fun _ => ⟨_, rfl, b, _, rfl, B3, by decide, by decide, fun z H4 z0 z1 B4 k4 => ⟨_, _, rfl, rfl, _, rfl, s2, fin _ _ H4 (by omega) (by omega) (by omega) (by omega) (by omega) B4 (kk.trans k4)⟩⟩) (fun _ => ?_)
    exact ⟨_, rfl, _, rfl, s2, fin _ _ H3 (by omega) (by omega) (by omega) (by omega) (by omega) B3 kk⟩

/-! ### _law_bag -/
/-- a new bag -/
def sp__law_bag (K : PySem.W.Frag) : Sp := fun vs H Q _ => ∃ (a : Addr) (ns : List Int), vs = [.ref a] ∧ SqL K H a (ns.map V.int) ∧ ns.length ≤ 63 ∧ ∀ (b : Addr) (H' : Hp), H b = none → Bag H' b → Same H H' → Q (.ref b) H'

theorem sc__law_bag : FnScope ["script", "salt", "cell"] ["script"] (defScope s__law_bag) := ⟨rfl, rfl, rfl, by decide +kernel, rfl, by decide +kernel, by decide +kernel⟩
theorem ok__law_bag (E : En K mg) : Good P w K mg base CX0 1 "_law_bag" ["script"] (sp__law_bag K) := by
  obtain ⟨fd, F⟩ := E.says.def_ 14 (d := d__law_bag) rfl
  refine ⟨fd, ?_, F.bindsN fun _ _ _ _ _ _ us hl => match us, hl with | [_], _ => rfl, F.kp, E.gl "_law_bag"⟩
  refine F.ok sc__law_bag (fun vs H Q E' h => ?_) (fun cdv A outer s H vs Q E' hr h => ?_)
  · obtain ⟨a, ns, rfl, _⟩ := h; rfl
  · have hu64 := hu64_of hr
    refine ⟨_, PSs.nox (pss_cons (ps_set (i := 1) sc__law_bag.nd rfl (by first | exact Or.inl rfl | exact Or.inr rfl) pe_int)
      (pss_cons (ps_for PassesOwn.never rfl (pi_list (pe_slice sl_list (pv 0) po_none (po_some pe_int))) (pg_name (i := 2) sc__law_bag.nd rfl (by first | exact Or.inl rfl | exact Or.inr rfl))
        (pss_one (ps_set (i := 1) sc__law_bag.nd rfl (by first | exact Or.inl rfl | exact Or.inr rfl) (pe_op op_mod (pe_callTy call_int1 (by rfl) (E.fr "int") (by decide +kernel) (pa_cons (pe_op op_add (pe_op op_add (pe_op op_mul (pv 1) pe_int) (pe_op op_mod (pe_callTy call_int1 (by rfl) (E.fr "int") (by decide +kernel) (pa_cons (pv 2) pa_nil)) pe_int)) pe_int) pa_nil)) pe_int))))
      (pss_one (ps_ret (pe_lst (pa_cons (pe_callTy call_list_of (by rfl) (E.fr "list") (by decide +kernel) (pa_cons (pe_slice sl_list (pv 0) po_none (po_some pe_int)) pa_nil)) (pa_cons pe_int (pa_cons pe_int (pa_cons (pv 1) pa_nil))))))))), ?_⟩
    obtain ⟨a, ns, rfl, hS, hl, k⟩ := h
    have hl' : (ns.map V.int).length ≤ 63 := by rw [List.length_map]; exact hl
    refine ⟨_, rfl, 63, rfl, a, _, rfl, hS, fun p hp => ?_⟩
    rw [cut63 hl']
    refine ⟨p, rfl, ⟨_, SqL.of upd_same⟩, for_list (K := K) (a := p) (xs := ns.map V.int) (fun i σ H' => ∃ (s : Int) (v : Option V), σ = [some (.ref a), some (.int s), v] ∧ 0 ≤ s ∧ s < 2147483647 ∧ Same (upd H p (.lst (ns.map V.int))) H')
      ⟨3828, none, rfl, by decide, by decide, Same.refl _⟩ (fun i σ H' _ ⟨_, _, _, _, _, e⟩ => SqL.of (e _ _ upd_same)) ?_ ?_⟩
    · rintro i x σ H' hx ⟨s, v, rfl, h0, h1, e⟩
      obtain ⟨z, rfl⟩ : ∃ z, x = V.int z := by
        rw [List.getElem?_map] at hx
        cases q : ns[i]? with
        | none => rw [q] at hx; cases hx
        | some z => rw [q] at hx; exact ⟨z, (Option.some.inj hx).symm⟩
      refine ⟨_, rfl, _, _, rfl, rfl, .inr ⟨by decide, by decide⟩, _, rfl, .inl ⟨_, rfl, _, _, rfl, rfl, (by show (0 : Int) < _; decide), _, _, rfl, rfl, _, _, rfl, rfl, .inl ⟨_, rfl, _, _, rfl, rfl, (by show (0 : Int) < _; decide), ?_⟩⟩⟩
      have q := emod_bd (s * 45053 + z % 2147483563 + 23) (m := 2147483647) (by decide)
      exact ⟨_, some (.int z), rfl, q.1, q.2, e⟩
    · rintro σ H' ⟨s, v, rfl, h0, h1, e⟩
      have e1 : Same H H' := fun b o q => e b o (by rw [upd_ne (ne_of_none q hp)]; exact q)
      refine ⟨_, rfl, 63, rfl, a, _, rfl, e1.seq hS, fun p2 hp2 => ?_⟩
      rw [cut63 hl']
      refine ⟨p2, _, rfl, .inl (SqL.of upd_same), fun p3 hp3 => ?_⟩
      refine ⟨_, rfl, (by show 4 ≤ sizeLine; decide), fun b hb => ?_⟩
      have n32 : p3 ≠ p2 := fun z => by rw [z, upd_same] at hp3; cases hp3
      have nb3 : b ≠ p3 := fun z => by rw [z, upd_same] at hb; cases hb
      have hp3' : H' p3 = none := by rw [upd_ne n32] at hp3; exact hp3
      have hb2 : (upd H' p2 (.lst (ns.map V.int))) b = none := by rw [upd_ne nb3] at hb; exact hb
      have e2 : Same H' (upd (upd (upd H' p2 (.lst (ns.map V.int))) p3 (.lst (ns.map V.int))) b (.lst [.ref p3, .int 0, .int 0, .int s])) :=
        (same_new hp2).trans ((same_new hp3).trans (same_new hb))
      refine k b _ ?_ ⟨p3, ns, 0, 0, s, upd_same, ?_, nb3, hl, by decide, by decide, h0, h1⟩ (e1.trans e2)
      · have z : H' b = none := Same.free (same_new hp2) hb2
        exact Same.free e1 z
      · rw [upd_ne nb3.symm, upd_same]

/-! ### law -/
def sp_law (K : PySem.W.Frag) : Sp := fun vs H Q _ => ∃ (a : Addr) (ns : List Int), vs = [.ref a] ∧ H (He.cT K ("law", none)).2 = some (.tbl #[]) ∧ SqL K H a (ns.map V.int) ∧ ns.length ≤ 63 ∧ ∀ H', Q (.bl true) H'
theorem sp_law_holds {K : PySem.W.Frag} (H : Hp) (a : Addr) (ns : List Int) (hl : ns.length ≤ 63) (hT : H (He.cT K ("law", none)).2 = some (.tbl #[])) (hS : SqL K H a (ns.map V.int)) : sp_law K [.ref a] H (fun v _ => v = .bl true) fun _ _ _ => False := ⟨a, ns, rfl, hT, hS, hl, fun _ => rfl⟩
/-- what is no run -/
def BadRun (K : PySem.W.Frag) (H : Hp) (v : V) : Prop := ∃ d, Dp K H v d ∧ noL d = true ∧ runFl d = true ∧ runOkD d = false
theorem BadRun.same {K : PySem.W.Frag} {H H' : Hp} {v : V} (e : Same H H') (h : BadRun K H v) : BadRun K H' v := by
  obtain ⟨d, h1, r⟩ := h
  exact ⟨d, Dp.same e h1, r⟩
theorem BadRun.sameT {K : PySem.W.Frag} {H H' : Hp} {v : V} (e : SameT H H') (h : BadRun K H v) : BadRun K H' v := by
  obtain ⟨d, h1, h2, r⟩ := h
  exact ⟨d, Dp.sameT e h2 h1, h2, r⟩
theorem BadRun.extN {K : PySem.W.Frag} {H H' : Hp} {v : V} (e : LamX.ExtN H H') (h : BadRun K H v) : BadRun K H' v := by
  obtain ⟨d, h1, h2, r⟩ := h
  exact ⟨d, Dp.extN e h2 h1, h2, r⟩
theorem badRun_new {K : PySem.W.Frag} {H : Hp} {p : Addr} {xs : List V} {ds : List PyData} (h : H p = none) (A : DpAll K H xs ds) (hn : noLs ds = true) (fl : runFl (.tuple ds) = true) (no : runOkD (.tuple ds) = false) : BadRun K (upd H p (.tup xs)) (.ref p) :=
  ⟨.tuple ds, .tup (SqT.of upd_same) (Dp.sameAll (same_new h) A), by rw [noL]; exact hn, fl, no⟩
/-- what stands while the lambdas are made and called -/
structure KW (K : PySem.W.Frag) (b f : Addr) (us : List V) (rs : List PyData) (bd : Addr) (w : V) (H : Hp) : Prop where
  bag : Bag H b
  tabs : LamX.Tabs [((He.cT K ("law", none)).2, (("law" : Str) ++ ".<locals>.") ++ "<lambda>")] H
  hf : H f = some (.lst us)
  du : DpAll K H us rs
  hb : H bd = some (.lst (us ++ [w]))
  bad : BadRun K H w
theorem KW.step {K : PySem.W.Frag} {b f bd : Addr} {us : List V} {rs : List PyData} {w : V} {H H' : Hp} (W : KW K b f us rs bd w H) (hn : noLs rs = true) (e : LamX.ExtN H H') (T : LamX.Tabs [((He.cT K ("law", none)).2, (("law" : Str) ++ ".<locals>.") ++ "<lambda>")] H') : KW K b f us rs bd w H' :=
  ⟨W.bag.extN e, T, e _ _ W.hf (fun _ z => by cases z), Dp.extN.go e hn W.du, e _ _ W.hb (fun _ z => by cases z), W.bad.extN e⟩
/-- with the lambdas -/
structure K5 (K : PySem.W.Frag) (b f bd al : Addr) (us : List V) (rs : List PyData) (w : V) (f1 f2 f3 f4 f5 : Addr) (L1 L2 L3 L4 L5 : LInf) (H : Hp) : Prop where
  w : KW K b f us rs bd w H
  al : H al = some (.lst [.ref f1, .ref f2, .ref f3, .ref f4, .ref f5])
  l1 : LamAt L1 none H f1
  l2 : LamAt L2 (some (.int 0)) H f2
  l3 : LamAt L3 (some (.int 0)) H f3
  l4 : LamAt L4 (some (.int 0)) H f4
  l5 : LamAt L5 (some (.int 0)) H f5
theorem lam_ext {L : LInf} {d : Option V} {H H' : Hp} {f : Addr} (e : LamX.ExtN H H') (h : LamAt L d H f) : LamAt L d H' f := h.mono fun b o q _ n => e b o q n
section
variable {K : PySem.W.Frag} {b f bd al : Addr} {us : List V} {rs : List PyData} {w : V} {f1 f2 f3 f4 f5 : Addr} {L1 L2 L3 L4 L5 : LInf} {H H' : Hp}
theorem K5.same (W : K5 K b f bd al us rs w f1 f2 f3 f4 f5 L1 L2 L3 L4 L5 H) (hn : noLs rs = true) (e : Same H H') : K5 K b f bd al us rs w f1 f2 f3 f4 f5 L1 L2 L3 L4 L5 H' :=
  ⟨W.w.step hn (extN_same e) (W.w.tabs.ext e), e _ _ W.al, lam_ext (extN_same e) W.l1, lam_ext (extN_same e) W.l2, lam_ext (extN_same e) W.l3, lam_ext (extN_same e) W.l4, lam_ext (extN_same e) W.l5⟩
theorem K5.kp (W : K5 K b f bd al us rs w f1 f2 f3 f4 f5 L1 L2 L3 L4 L5 H) (hn : noLs rs = true) (nf : f ≠ b) (nb : bd ≠ b) (na : al ≠ b) (B : Bag H' b) (e : Kp b H H') : K5 K b f bd al us rs w f1 f2 f3 f4 f5 L1 L2 L3 L4 L5 H' := by
  have st := W.w.bag.sameT e
  have lm : ∀ {L : LInf} {d : Option V} {f : Addr}, LamAt L d H f → LamAt L d H' f := fun h => h.mono fun b o q n _ => st b o q n
  exact ⟨⟨B, tabs_sameT st W.w.tabs, e _ _ nf W.w.hf, Dp.sameTs st hn W.w.du, e _ _ nb W.w.hb, W.w.bad.sameT st⟩, e _ _ na W.al, lm W.l1, lm W.l2, lm W.l3, lm W.l4, lm W.l5⟩
theorem K5.put {D : Addr} {acc : List V} {o : HO} (W : K5 K b f bd al us rs w f1 f2 f3 f4 f5 L1 L2 L3 L4 L5 H) (hn : noLs rs = true) (nf : f ≠ D) (nb : bd ≠ D) (na : al ≠ D) (B : Bag (_root_.L2.upd H D o) b) (hD : H D = some (.lst acc)) : K5 K b f bd al us rs w f1 f2 f3 f4 f5 L1 L2 L3 L4 L5 (_root_.L2.upd H D o) := by
  have st : SameT H (_root_.L2.upd H D o) := .put hD
  have lm : ∀ {L : LInf} {d : Option V} {f : Addr}, LamAt L d H f → LamAt L d (_root_.L2.upd H D o) f := fun h => h.mono fun b o q n _ => st b o q n
  exact ⟨⟨B, tabs_sameT st W.w.tabs, by rw [upd_ne nf]; exact W.w.hf, Dp.sameTs st hn W.w.du, by rw [upd_ne nb]; exact W.w.hb, W.w.bad.sameT st⟩, by rw [upd_ne na]; exact W.al, lm W.l1, lm W.l2, lm W.l3, lm W.l4, lm W.l5⟩
end
theorem dpAllRep {K : PySem.W.Frag} {H : Hp} {d : PyData} : ∀ {acc : List V} {n : Nat}, acc.length = n → (∀ z ∈ acc, Dp K H z d) → DpAll K H acc (List.replicate n d)
  | [], 0, _, _ => .nil
  | z :: acc, n + 1, h, hz => .cons (hz z List.mem_cons_self) (dpAllRep (Nat.succ.inj h) fun y hy => hz y (List.mem_cons_of_mem _ hy))

theorem sc_law : FnScope ["script", "bag", "turn", "one", "rows", "base", "size", "given", "bad", "asks", "ask"] ["script"] (defScope s_law) := ⟨rfl, rfl, rfl, by decide +kernel, rfl, by decide +kernel, by decide +kernel⟩
theorem ok_law {fd : FuncData} (F : FunD K "law" "law" (defArgs s_law) (defBody s_law) (defScope s_law) [] [] (He.ga K "law") fd) (E : En K mg) (TB : LamX.TabB base mg (He.cT K ("law", none)).1 (He.cT K ("law", none)).2) (G_pair_of_t : GoodN P w K mg base CX0 3 "pair_of" 1 ["divisor", "bottom"] ["runs", "bottom", "divisor"] (fun vs zs => vs ++ zs.reverse) (sp_pair_of_t K)) (G_pair_of : GoodN P w K mg base (L2.CX P w) 3 "pair_of" 1 ["divisor"] ["runs", "bottom", "divisor"] (fun vs zs => vs ++ ([V.str "even"] ++ ([] ++ zs))) (sp_pair_of K) ∧ GoodN P w K mg base (L2.CX P w) 3 "pair_of" 2 ["divisor"] ["runs", "bottom", "divisor"] (fun vs zs => vs ++ ([] ++ zs)) (sp_pair_of K) ∧ GoodN P w K mg base (L2.CX P w) 3 "pair_of" 1 [] ["runs", "bottom", "divisor"] (fun vs zs => vs ++ ([V.str "even"] ++ ([V.int 1] ++ zs))) (sp_pair_of K) ∧ GoodN P w K mg base (L2.CX P w) 3 "pair_of" 0 ["runs"] ["runs", "bottom", "divisor"] (fun vs zs => zs ++ ([V.str "even"] ++ [V.int 1])) (sp_pair_of K)) (G__law_field : GoodA P w K mg base 1 "_law_field" ["e"] (sp_field K)) (G__law_try : GoodT P w K mg base 14 (He.ga K "PathError")) (G__law_of : Good P w K mg base CX0 2 "_law_of" ["bag", "things"] (sp__law_of K)) (G__law_same : Good P w K mg base CX0 12 "_law_same" ["found", "due"] (sp__law_same K)) (G__law_gcd : Good P w K mg base CX0 1 "_law_gcd" ["x", "y"] (sp__law_gcd K)) (G__law_bottom : Good P w K mg base CX0 1 "_law_bottom" ["pair"] (sp__law_bottom K)) (G__law_runs : Good P w K mg base CX0 1 "_law_runs" ["pair"] (sp__law_runs K)) (G__law_far_pair : Good P w K mg base CX0 3 "_law_far_pair" ["bag"] (sp__law_far_pair K)) (G__law_pair : Good P w K mg base CX0 2 "_law_pair" ["bag", "top_z"] (sp__law_pair K)) (G__law_bag : Good P w K mg base CX0 1 "_law_bag" ["script"] (sp__law_bag K)) : FnOk P w K mg base CX0 16 (He.ga K "law") fd ["script"] (sp_law K) := by
  refine F.okC sc_law (fun vs H Q E' h => ?_) (fun A outer s H vs Q E' hr h => ?_)
  · obtain ⟨a, ns, rfl, _⟩ := h; rfl
  · have hu64 := hu64_of hr
    have hls1 : ∀ l ∈ _, LamK ((cxOf CX0 P w K mg base ["script", "bag", "turn", "one", "rows", "base", "size", "given", "bad", "asks", "ask"] "law" (defScope s_law) (He.ga K "law") (.ref (He.cT K ("law", none)).1) A outer s H E').nox) 13 l := (lks_cons
        (LamK.mk' (p := (listEl (assignVal ((forBody ((defBody s_law).getD 1 (.Pass ⟨0, 0, 0, 0⟩))).getD 6 (.Pass ⟨0, 0, 0, 0⟩))) 0)) (lam1_by (N := ["script", "bag", "turn", "one", "rows", "base", "size", "given", "bad", "asks", "ask"]) (sc := defScope s_law) (scope := lamS (listEl (assignVal ((forBody ((defBody s_law).getD 1 (.Pass ⟨0, 0, 0, 0⟩))).getD 6 (.Pass ⟨0, 0, 0, 0⟩))) 0)) (by decide +kernel)) (show BindL (lamP (listEl (assignVal ((forBody ((defBody s_law).getD 1 (.Pass ⟨0, 0, 0, 0⟩))).getD 6 (.Pass ⟨0, 0, 0, 0⟩))) 0)) (lamB (listEl (assignVal ((forBody ((defBody s_law).getD 1 (.Pass ⟨0, 0, 0, 0⟩))).getD 6 (.Pass ⟨0, 0, 0, 0⟩))) 0)) (lamS (listEl (assignVal ((forBody ((defBody s_law).getD 1 (.Pass ⟨0, 0, 0, 0⟩))).getD 6 (.Pass ⟨0, 0, 0, 0⟩))) 0)) false from fun _ _ _ _ _ => rfl) (fun A2 outer2 s2 H2 E2 f2 c2 hr2 => (pe_GN G_pair_of.2.1 (hr2.mono (by decide)) rfl (passes_call (E := E2) (takes_of (E := E2) rfl rfl rfl rfl) fun _ _ _ _ h => h) (pa_cons (pv 8) (pa_cons pe_str pa_nil)) (pk_cons (pv 6) pk_nil))))
        (lks_cons
        (LamK.mk' (p := (listEl (binR (assignVal ((forBody ((defBody s_law).getD 1 (.Pass ⟨0, 0, 0, 0⟩))).getD 7 (.Pass ⟨0, 0, 0, 0⟩)))) 0)) (lam1_by (N := ["script", "bag", "turn", "one", "rows", "base", "size", "given", "bad", "asks", "ask"]) (sc := defScope s_law) (scope := lamS (listEl (binR (assignVal ((forBody ((defBody s_law).getD 1 (.Pass ⟨0, 0, 0, 0⟩))).getD 7 (.Pass ⟨0, 0, 0, 0⟩)))) 0)) (by decide +kernel)) (show BindL (lamP (listEl (binR (assignVal ((forBody ((defBody s_law).getD 1 (.Pass ⟨0, 0, 0, 0⟩))).getD 7 (.Pass ⟨0, 0, 0, 0⟩)))) 0)) (lamB (listEl (binR (assignVal ((forBody ((defBody s_law).getD 1 (.Pass ⟨0, 0, 0, 0⟩))).getD 7 (.Pass ⟨0, 0, 0, 0⟩)))) 0)) (lamS (listEl (binR (assignVal ((forBody ((defBody s_law).getD 1 (.Pass ⟨0, 0, 0, 0⟩))).getD 7 (.Pass ⟨0, 0, 0, 0⟩)))) 0)) true from ⟨"a", by decide +kernel, fun _ _ _ _ _ _ => ⟨_, rfl, fun _ => rfl⟩⟩) (fun A2 outer2 s2 H2 E2 f2 c2 hr2 => (pe_GN G_pair_of.2.1 (hr2.mono (by decide)) rfl (passes_call (E := E2) (takes_of (E := E2) rfl rfl rfl rfl) fun _ _ _ _ h => h) (pa_cons (pv 4) (pa_cons (pe_G G__law_of (hr2.mono (by decide)) rfl pass0 (pa_cons (pv 1) (pa_cons (pe_lst (pa_cons pe_str (pa_cons pe_non (pa_cons pe_str (pa_cons pe_int (pa_cons pe_str pa_nil)))))) pa_nil))) pa_nil)) (pk_cons (pv 6) pk_nil))))
        (lks_cons
        (LamK.mk' (p := (listEl (binR (assignVal ((forBody ((defBody s_law).getD 1 (.Pass ⟨0, 0, 0, 0⟩))).getD 8 (.Pass ⟨0, 0, 0, 0⟩)))) 0)) (lam1_by (N := ["script", "bag", "turn", "one", "rows", "base", "size", "given", "bad", "asks", "ask"]) (sc := defScope s_law) (scope := lamS (listEl (binR (assignVal ((forBody ((defBody s_law).getD 1 (.Pass ⟨0, 0, 0, 0⟩))).getD 8 (.Pass ⟨0, 0, 0, 0⟩)))) 0)) (by decide +kernel)) (show BindL (lamP (listEl (binR (assignVal ((forBody ((defBody s_law).getD 1 (.Pass ⟨0, 0, 0, 0⟩))).getD 8 (.Pass ⟨0, 0, 0, 0⟩)))) 0)) (lamB (listEl (binR (assignVal ((forBody ((defBody s_law).getD 1 (.Pass ⟨0, 0, 0, 0⟩))).getD 8 (.Pass ⟨0, 0, 0, 0⟩)))) 0)) (lamS (listEl (binR (assignVal ((forBody ((defBody s_law).getD 1 (.Pass ⟨0, 0, 0, 0⟩))).getD 8 (.Pass ⟨0, 0, 0, 0⟩)))) 0)) true from ⟨"b", by decide +kernel, fun _ _ _ _ _ _ => ⟨_, rfl, fun _ => rfl⟩⟩) (fun A2 outer2 s2 H2 E2 f2 c2 hr2 => (pe_GN G_pair_of.2.1 (hr2.mono (by decide)) rfl (passes_call (E := E2) (takes_of (E := E2) rfl rfl rfl rfl) fun _ _ _ _ h => h) (pa_cons (pv 4) (pa_cons (pv 5) pa_nil)) (pk_cons (pe_G G__law_of (hr2.mono (by decide)) rfl pass0 (pa_cons (pv 1) (pa_cons (pe_lst (pa_cons pe_int (pa_cons (pe_un un_neg pe_int) (pa_cons pe_non (pa_cons pe_bl (pa_cons pe_str pa_nil)))))) pa_nil))) pk_nil))))
        (lks_cons
        (LamK.mk' (p := (listEl (binR (assignVal ((forBody ((defBody s_law).getD 1 (.Pass ⟨0, 0, 0, 0⟩))).getD 9 (.Pass ⟨0, 0, 0, 0⟩)))) 0)) (lam1_by (N := ["script", "bag", "turn", "one", "rows", "base", "size", "given", "bad", "asks", "ask"]) (sc := defScope s_law) (scope := lamS (listEl (binR (assignVal ((forBody ((defBody s_law).getD 1 (.Pass ⟨0, 0, 0, 0⟩))).getD 9 (.Pass ⟨0, 0, 0, 0⟩)))) 0)) (by decide +kernel)) (show BindL (lamP (listEl (binR (assignVal ((forBody ((defBody s_law).getD 1 (.Pass ⟨0, 0, 0, 0⟩))).getD 9 (.Pass ⟨0, 0, 0, 0⟩)))) 0)) (lamB (listEl (binR (assignVal ((forBody ((defBody s_law).getD 1 (.Pass ⟨0, 0, 0, 0⟩))).getD 9 (.Pass ⟨0, 0, 0, 0⟩)))) 0)) (lamS (listEl (binR (assignVal ((forBody ((defBody s_law).getD 1 (.Pass ⟨0, 0, 0, 0⟩))).getD 9 (.Pass ⟨0, 0, 0, 0⟩)))) 0)) true from ⟨"c", by decide +kernel, fun _ _ _ _ _ _ => ⟨_, rfl, fun _ => rfl⟩⟩) (fun A2 outer2 s2 H2 E2 f2 c2 hr2 => (pe_GN G_pair_of.2.1 (hr2.mono (by decide)) rfl (passes_call (E := E2) (takes_of (E := E2) rfl rfl rfl rfl) fun _ _ _ _ h => h) (pa_cons (pe_lst (pa_cons (pe_tup (pa_cons pe_str (pa_cons pe_int pa_nil))) pa_nil)) (pa_cons (pe_G G__law_of (hr2.mono (by decide)) rfl pass0 (pa_cons (pv 1) (pa_cons (pe_lst (pa_cons pe_str (pa_cons pe_str pa_nil))) pa_nil))) pa_nil)) (pk_cons (pv 6) pk_nil))))
        (lks_cons
        (LamK.mk' (p := (listEl (binR (assignVal ((forBody ((defBody s_law).getD 1 (.Pass ⟨0, 0, 0, 0⟩))).getD 10 (.Pass ⟨0, 0, 0, 0⟩)))) 0)) (lam1_by (N := ["script", "bag", "turn", "one", "rows", "base", "size", "given", "bad", "asks", "ask"]) (sc := defScope s_law) (scope := lamS (listEl (binR (assignVal ((forBody ((defBody s_law).getD 1 (.Pass ⟨0, 0, 0, 0⟩))).getD 10 (.Pass ⟨0, 0, 0, 0⟩)))) 0)) (by decide +kernel)) (show BindL (lamP (listEl (binR (assignVal ((forBody ((defBody s_law).getD 1 (.Pass ⟨0, 0, 0, 0⟩))).getD 10 (.Pass ⟨0, 0, 0, 0⟩)))) 0)) (lamB (listEl (binR (assignVal ((forBody ((defBody s_law).getD 1 (.Pass ⟨0, 0, 0, 0⟩))).getD 10 (.Pass ⟨0, 0, 0, 0⟩)))) 0)) (lamS (listEl (binR (assignVal ((forBody ((defBody s_law).getD 1 (.Pass ⟨0, 0, 0, 0⟩))).getD 10 (.Pass ⟨0, 0, 0, 0⟩)))) 0)) true from ⟨"d", by decide +kernel, fun _ _ _ _ _ _ => ⟨_, rfl, fun _ => rfl⟩⟩) (fun A2 outer2 s2 H2 E2 f2 c2 hr2 => (pe_GN G_pair_of.2.2.1 (hr2.mono (by decide)) rfl (passes_call (E := E2) (takes_of (E := E2) rfl rfl rfl rfl) fun _ _ _ _ h => h) (pa_cons (pe_lst (pa_cons (pe_tup (pa_cons pe_str (pa_cons pe_int pa_nil))) (pa_cons (pe_tup (pa_cons pe_str (pa_cons (pv 6) pa_nil))) pa_nil))) pa_nil) pk_nil)))
        lks_nil)))))
    refine ⟨_, PSs.nox (pss_cons (ps_set (i := 1) sc_law.nd rfl (by first | exact Or.inl rfl | exact Or.inr rfl) (pe_G G__law_bag (hr.mono (by decide)) rfl pass0 (pa_cons (pv 0) pa_nil)))
      (pss_cons (ps_for PassesOwn.never rfl (pi_range1 rfl (E.fr "range") (pa_cons pe_int pa_nil)) (pg_name (i := 2) sc_law.nd rfl (by first | exact Or.inl rfl | exact Or.inr rfl))
        (pss_cons (ps_set (i := 3) sc_law.nd rfl (by first | exact Or.inl rfl | exact Or.inr rfl) (pe_G G__law_of (hr.mono (by decide)) rfl pass0 (pa_cons (pv 1) (pa_cons (pe_lst (pa_cons (pe_G G__law_pair (hr.mono (by decide)) rfl pass0 (pa_cons (pv 1) (pa_cons pe_int pa_nil))) (pa_cons (pe_G G__law_far_pair (hr.mono (by decide)) rfl pass0 (pa_cons (pv 1) pa_nil)) pa_nil))) pa_nil))))
      (pss_cons (ps_asg (pe_tup (pa_cons (pe_G G__law_runs (hr.mono (by decide)) rfl pass0 (pa_cons (pv 3) pa_nil)) (pa_cons (pe_G G__law_bottom (hr.mono (by decide)) rfl pass0 (pa_cons (pv 3) pa_nil)) (pa_cons (pe_G G__law_gcd (hr.mono (by decide)) rfl pass0 (pa_cons (pe_ix ix_tup (pv 3) pe_int (fun _ _ => rfl)) (pa_cons (pe_ix ix_tup (pv 3) pe_int (fun _ _ => rfl)) pa_nil))) pa_nil)))) (pg_tup rfl (pgs_cons (pg_name (i := 4) sc_law.nd rfl (by first | exact Or.inl rfl | exact Or.inr rfl)) (pgs_cons (pg_name (i := 5) sc_law.nd rfl (by first | exact Or.inl rfl | exact Or.inr rfl)) (pgs_cons (pg_name (i := 6) sc_law.nd rfl (by first | exact Or.inl rfl | exact Or.inr rfl)) pgs_nil)))))
      (pss_cons (ps_set (i := 7) sc_law.nd rfl (by first | exact Or.inl rfl | exact Or.inr rfl) (pe_callTy call_list_of (by rfl) (E.fr "list") (by decide +kernel) (pa_cons (pv 4) pa_nil)))
      (C8.pss_cut (ps_if (PW.pt (pw_or (pt_not (pt_val (pe_G G__law_same (hr.mono (by decide)) rfl pass0 (pa_cons (pe_lst (pa_cons (pe_GN G_pair_of.2.1 (hr.mono (by decide)) rfl passF (pa_cons (pv 7) (pa_cons (pv 5) pa_nil)) (pk_cons (pv 6) pk_nil)) (pa_cons (pe_GN G_pair_of_t (hr.mono (by decide)) rfl pass0 (pa_cons (pe_callTy call_tuple_of (by rfl) (E.fr "tuple") (by decide +kernel) (pa_cons (pv 4) pa_nil)) pa_nil) (pk_cons (pv 6) (pk_cons (pv 5) pk_nil))) pa_nil))) (pa_cons (pe_lst (pa_cons (pv 3) (pa_cons (pv 3) pa_nil))) pa_nil))))) (pw_or1 (pt_cmpR (op_neD hu64) (pv 7) (pv 4) (nomark _)))))
        (pss_one (ps_ret pe_bl))
        pss_nil)
      (C8.pss_cut (ps_if (PW.pt (pw_and (pt_cmpR op_eq (pv 5) pe_str (nomark _)) (pw_and1 (pt_not (pt_val (pe_G G__law_same (hr.mono (by decide)) rfl pass0 (pa_cons (pe_GN0 G_pair_of.2.2.2 (hr.mono (by decide)) rfl passF (pk_cons (pv 4) pk_nil)) (pa_cons (pe_tup (pa_cons (pe_op op_fdivW (pe_ix ix_tup (pv 3) pe_int (fun _ _ => rfl)) (pv 6)) (pa_cons (pe_op op_fdivW (pe_ix ix_tup (pv 3) pe_int (fun _ _ => rfl)) (pv 6)) pa_nil))) pa_nil))))))))
        (pss_one (ps_ret pe_bl))
        pss_nil)
      (C8.pss_cut (ps_set (i := 8) sc_law.nd rfl (by first | exact Or.inl rfl | exact Or.inr rfl) (pe_op op_cat (pv 4) (pe_lst (pa_cons (pe_G G__law_of (hr.mono (by decide)) rfl pass0 (pa_cons (pv 1) (pa_cons (pe_lst (pa_cons (pe_tup (pa_cons pe_str (pa_cons pe_int pa_nil))) (pa_cons (pe_tup (pa_cons pe_str (pa_cons (pe_un un_neg pe_int) pa_nil))) (pa_cons (pe_tup (pa_cons pe_str (pa_cons pe_int pa_nil))) (pa_cons (pe_tup (pa_cons pe_str (pa_cons pe_bl pa_nil))) (pa_cons (pe_tup (pa_cons pe_str pa_nil)) (pa_cons pe_non (pa_cons (pe_tup (pa_cons pe_str (pa_cons pe_str pa_nil))) (pa_cons pe_int pa_nil))))))))) pa_nil))) pa_nil))))
      (pss_cons (ps_set (i := 9) sc_law.nd rfl (by first | exact Or.inl rfl | exact Or.inr rfl) (pe_lst (pa_cons (pe_lam0 TB rfl (Lam1.free (lam1_by (N := ["script", "bag", "turn", "one", "rows", "base", "size", "given", "bad", "asks", "ask"]) (sc := defScope s_law) (by decide +kernel))) (by rfl)) pa_nil)))
      (pss_cons (ps_set (i := 9) sc_law.nd rfl (by first | exact Or.inl rfl | exact Or.inr rfl) (pe_op op_cat (pv 9) (pe_lst (pa_cons (pe_lam1 TB rfl (Lam1.free (lam1_by (N := ["script", "bag", "turn", "one", "rows", "base", "size", "given", "bad", "asks", "ask"]) (sc := defScope s_law) (by decide +kernel))) (by rfl) rfl pe_int) pa_nil))))
      (pss_cons (ps_set (i := 9) sc_law.nd rfl (by first | exact Or.inl rfl | exact Or.inr rfl) (pe_op op_cat (pv 9) (pe_lst (pa_cons (pe_lam1 TB rfl (Lam1.free (lam1_by (N := ["script", "bag", "turn", "one", "rows", "base", "size", "given", "bad", "asks", "ask"]) (sc := defScope s_law) (by decide +kernel))) (by rfl) rfl pe_int) pa_nil))))
      (pss_cons (ps_set (i := 9) sc_law.nd rfl (by first | exact Or.inl rfl | exact Or.inr rfl) (pe_op op_cat (pv 9) (pe_lst (pa_cons (pe_lam1 TB rfl (Lam1.free (lam1_by (N := ["script", "bag", "turn", "one", "rows", "base", "size", "given", "bad", "asks", "ask"]) (sc := defScope s_law) (by decide +kernel))) (by rfl) rfl pe_int) pa_nil))))
      (pss_cons (ps_set (i := 9) sc_law.nd rfl (by first | exact Or.inl rfl | exact Or.inr rfl) (pe_op op_cat (pv 9) (pe_lst (pa_cons (pe_lam1 TB rfl (Lam1.free (lam1_by (N := ["script", "bag", "turn", "one", "rows", "base", "size", "given", "bad", "asks", "ask"]) (sc := defScope s_law) (by decide +kernel))) (by rfl) rfl pe_int) pa_nil))))
      (pss_one (ps_if (pt_cmpR (op_neD hu64) (pe_lcI (own := [("ask", 10)]) (by rfl) sc_law.nd (pi_list (pv 9)) (blkOk_by (N := ["script", "bag", "turn", "one", "rows", "base", "size", "given", "bad", "asks", "ask"]) (sc := defScope s_law) (by decide +kernel)) (by exact fun _ _ _ _ _ => (pg_name (i := 10) sc_law.nd rfl (by first | exact Or.inl rfl | exact Or.inr rfl))) (by exact fun _ _ _ _ I _ _ _ hfp => pe_Tv I hfp G__law_try rfl (hr.mono (by decide)) (j := 13) (by decide) hls1 (pv 10))) (pe_op op_rep (pe_lst (pa_cons (pe_tup (pa_cons pe_str (pa_cons pe_non pa_nil))) pa_nil)) pe_int) (nomark _))
        (pss_one (ps_ret pe_bl))
        pss_nil))))))))))))))
      (pss_one (ps_ret (pe_cmpR (op_eqD hu64) (pe_lst (pa_cons (pe_GN G_pair_of.2.2.1 (hr.mono (by decide)) rfl passF (pa_cons (pe_lst pa_nil) pa_nil) pk_nil) (pa_cons (pe_GN G_pair_of.1 (hr.mono (by decide)) rfl passF (pa_cons (pe_lst (pa_cons (pe_tup (pa_cons pe_str (pa_cons pe_int pa_nil))) (pa_cons (pe_tup (pa_cons pe_str (pa_cons pe_int pa_nil))) pa_nil))) pa_nil) (pk_cons pe_int pk_nil)) (pa_cons (pe_GN G_pair_of.2.1 (hr.mono (by decide)) rfl passF (pa_cons (pe_lst pa_nil) (pa_cons pe_str pa_nil)) (pk_cons pe_int pk_nil)) pa_nil)))) (pe_lst (pa_cons (pe_tup (pa_cons pe_int (pa_cons pe_int pa_nil))) (pa_cons (pe_tup (pa_cons pe_int (pa_cons pe_int pa_nil))) (pa_cons (pe_tup (pa_cons pe_int (pa_cons pe_int pa_nil))) pa_nil)))) (nomark _)))))), ?_⟩
    obtain ⟨a, ns, rfl, hT, hS, hl, k⟩ := h
    have s0 : 0 ≤ sizeLine := by decide
    have s1 : 1 ≤ sizeLine := by decide
    have s2 : 2 ≤ sizeLine := by decide
    have s3 : 3 ≤ sizeLine := by decide
    have s8 : 8 ≤ sizeLine := by decide
    refine ⟨_, rfl, a, ns, rfl, hS, hl, fun b H1 hb B e1 => ?_⟩
    refine ⟨10, rfl, by decide, by decide, for_range (lo := 0) (n := 10) (fun _ σ H' => ∃ s2 s3 s4 s5 s6 s7 s8 s9 : Option V, σ = [some (.ref a), some (.ref b), s2, s3, s4, s5, s6, s7, s8, s9, none] ∧ Bag H' b ∧ LamX.Tabs [((He.cT K ("law", none)).2, (("law" : Str) ++ ".<locals>.") ++ "<lambda>")] H') ⟨_, _, _, _, _, _, _, _, rfl, B, tabs_one (e1 _ _ hT)⟩ ?_ ?_⟩
    rotate_left
    · rintro σ H2 ⟨_, _, _, _, _, _, _, _, rfl, B2, T2⟩
      have p4 : (10 : Nat) < 2 ^ 4000 := Nat.lt_of_lt_of_le (by decide : 10 < 2 ^ 20) (Nat.pow_le_pow_right (by decide) (by decide))
      have dP : ∀ {v : V} {H' : Hp} {p q : Nat}, PairAt K H' v p q → Dp K H' v (.tuple [.int (p : Int), .int (q : Int)]) := fun {v H' p q} ⟨a', e, h⟩ => by rw [e]; exact .tup h (.cons (.int _) (.cons (.int _) .nil))
      refine ⟨s0, fun l0 h0 => ⟨rfl, rfl, .inl ⟨l0, [], [], 1, rfl, SqL.of upd_same, .nil, True.intro, Nat.le_refl _, by decide, fun i => ?_, fun r hr => absurd hr List.not_mem_nil, fun w1 H3 e3 P3 => ?_⟩⟩⟩
      · rw [List.drop_nil]
        exact ⟨Nat.lt_trans (by decide : 1 < 10) p4, Nat.lt_trans (by decide : 1 < 10) p4⟩
      refine ⟨s2, fun p1 h1 => ⟨s2, fun p2 h2 => ⟨s2, fun l2 hl2 => ⟨rfl, rfl, ?_⟩⟩⟩⟩
      have ep1 := same_new (o := .tup [.str "X", .int 2]) h1
      have ep2 := same_new (o := .tup [.str "Y", .int 1]) h2
      have el2 := same_new (o := .lst [.ref p1, .ref p2]) hl2
      have d1 : Dp K _ (.ref p1) (runD (true, 2)) := Dp.same (ep2.trans el2) (.tup (SqT.of upd_same) (.cons (.str _) (.cons (.int _) .nil)))
      have d2 : Dp K _ (.ref p2) (runD (false, 1)) := Dp.same el2 (.tup (SqT.of upd_same) (.cons (.str _) (.cons (.int _) .nil)))
      refine .inl ⟨l2, [.ref p1, .ref p2], [(true, 2), (false, 1)], 2, rfl, SqL.of upd_same, .cons d1 (.cons d2 .nil), ⟨by decide, (fun q hq => by cases hq; decide), by decide, (fun q hq => by cases hq), True.intro⟩, by decide, by decide, fun i => ?_, fun r hr => ?_, fun w2 H4 e4 P4 => ?_⟩
      · have h := buildP_le_drop 2 [(true, 2), (false, 1)] i
        have e : buildP 2 [(true, 2), (false, 1)] = (10, 4) := by decide
        rw [e] at h
        exact ⟨Nat.lt_of_le_of_lt h.1 p4, Nat.lt_of_le_of_lt h.2 (Nat.lt_trans (by decide : 4 < 10) p4)⟩
      · rcases List.mem_cons.mp hr with q | q
        · rw [q]; exact Nat.lt_trans (by decide : 2 < 10) p4
        · rw [List.mem_singleton.mp q]; exact Nat.lt_trans (by decide : 1 < 10) p4
      refine ⟨s0, fun l3 h3 => ⟨rfl, rfl, .inr (.inl ⟨l3, true, 4, rfl, SqL.of upd_same, by decide, fun w3 H5 e5 P5 => ?_⟩)⟩⟩
      refine ⟨s3, fun q hq => ⟨s2, fun t1 ht1 => ⟨s2, fun t2 ht2 => ⟨s2, fun t3 ht3 => ⟨s3, fun q2 hq2 => ?_⟩⟩⟩⟩⟩
      have x1 := same_new (o := .lst [w1, w2, w3]) hq
      have x2 := same_new (o := .tup [.int 1, .int 1]) ht1
      have x3 := same_new (o := .tup [.int 10, .int 4]) ht2
      have x4 := same_new (o := .tup [.int 4, .int 0]) ht3
      have x5 := same_new (o := .lst [.ref t1, .ref t2, .ref t3]) hq2
      have xx := x1.trans (x2.trans (x3.trans (x4.trans x5)))
      have w1d := Dp.same (((ep1.trans ep2).trans (el2.trans e4)).trans (((same_new (o := .lst []) h3).trans e5).trans xx)) (dP P3)
      have w2d := Dp.same (((same_new (o := .lst []) h3).trans e5).trans xx) (dP P4)
      have w3d := Dp.same xx (dP P5)
      have u1 : Dp K _ (.ref t1) (.tuple [.int 1, .int 1]) := Dp.same (x3.trans (x4.trans x5)) (.tup (SqT.of upd_same) (.cons (.int _) (.cons (.int _) .nil)))
      have u2 : Dp K _ (.ref t2) (.tuple [.int 10, .int 4]) := Dp.same (x4.trans x5) (.tup (SqT.of upd_same) (.cons (.int _) (.cons (.int _) .nil)))
      have u3 : Dp K _ (.ref t3) (.tuple [.int 4, .int 0]) := Dp.same x5 (.tup (SqT.of upd_same) (.cons (.int _) (.cons (.int _) .nil)))
      refine ⟨.list [.tuple [.int 1, .int 1], .tuple [.int 10, .int 4], .tuple [.int 4, .int 0]], .list [.tuple [.int 1, .int 1], .tuple [.int 10, .int 4], .tuple [.int 4, .int 0]], .lst (SqL.of ((x2.trans (x3.trans (x4.trans x5))) _ _ upd_same)) (.cons w1d (.cons w2d (.cons w3d .nil))), .lst (SqL.of upd_same) (.cons u1 (.cons u2 (.cons u3 .nil))), by decide +kernel, by decide +kernel, ?_⟩
      exact k _
    rintro i σ H2 _ ⟨_, _, _, _, _, _, t8, t9, rfl, B2, T2⟩
    -- one
    refine ⟨_, rfl, _, rfl, b, 50, rfl, B2, by decide, by decide, fun v1 x1 y1 H3 P1 n1 lx1 ly1 B3 k3 => ?_⟩
    refine ⟨_, rfl, b, rfl, B3, fun v2 x2 y2 H4 P2 ok2 lt2 B4 k4 => ⟨s2, fun l hl => ?_⟩⟩
    refine ⟨b, l, _, rfl, B4.keep (same_new hl), B4.ne hl, SqL.of upd_same, (by show 0 < 2; decide), (by show 2 ≤ 1000; decide), fun j v H5 hv B5 k5 => ?_⟩
    have st45 : SameT H4 H5 := (SameT.new hl).trans ((B4.keep (same_new hl)).sameT k5)
    have T5 := tabs_sameT ((B2.sameT k3).trans ((B3.sameT k4).trans st45)) T2
    have p20 : (54 : Nat) < 2 ^ 3000 := Nat.lt_of_lt_of_le (by decide : 54 < 2 ^ 20) (Nat.pow_le_pow_right (by decide) (by decide))
    obtain ⟨x, y, P5, ok, lt⟩ : ∃ x y, PairAt K H5 v x y ∧ okP x y ∧ (x < 2 ^ 3000 ∧ y < 2 ^ 3000) := by
      match j, hv with
      | 0, hv => cases hv; exact ⟨x1, y1, P1.sameT ((B3.sameT k4).trans st45), okP_small n1 (by omega) (by omega), by omega, by omega⟩
      | 1, hv => cases hv; exact ⟨x2, y2, P2.sameT st45, ok2, lt2⟩
    clear hv st45 P1 P2
    -- rows, base, size
    refine ⟨_, rfl, v, x, y, rfl, P5, ok, fun f us H6 hf e6 hF hD => ?_⟩
    have P6 := P5.same e6
    refine ⟨_, rfl, v, x, y, rfl, P6, ?_⟩
    obtain ⟨va, rfl, hVS⟩ := id P6
    refine ⟨_, rfl, va, _, _, _, rfl, rfl, hVS, at2_0 _ _, _, rfl, va, _, _, _, rfl, rfl, hVS, at2_1 _ _, x, y, rfl, ?_⟩
    refine ⟨s3, fun tp htp => ⟨tp, _, rfl, SqT.of upd_same, rfl, _, _, rfl, _, _, rfl, _, _, rfl, rfl, ?_⟩⟩
    have etp := same_new (o := .tup [.ref f, .str (bot x y), .int ((Nat.gcd x y : Nat) : Int)]) htp
    -- given
    refine ⟨_, rfl, f, us, rfl, .inl (SqL.of (etp _ _ hF)), fun gv hgv => ?_⟩
    have e7 := etp.trans (same_new (o := .lst us) hgv)
    have hG7 : (upd (upd H6 tp (.tup [.ref f, .str (bot x y), .int ((Nat.gcd x y : Nat) : Int)])) gv (.lst us)) gv = some (.lst us) := upd_same
    have hF7 := e7 _ _ hF
    have hD7 := Dp.sameAll e7 hD
    have P7 := P6.same e7
    have B7 := (B5.keep e6).keep e7
    have T7 := LamX.Tabs.ext (LamX.Tabs.ext T5 e6) e7
    generalize upd (upd H6 tp (.tup [.ref f, .str (bot x y), .int ((Nat.gcd x y : Nat) : Int)])) gv (.lst us) = H7 at *
    have hg : 0 < Nat.gcd x y := Nat.pos_of_ne_zero fun z => ok.1 (by have := Nat.gcd_eq_zero_iff.mp z; exact this)
    have hln := R_len' ok
    have hul : us.length = (R x y).length := by rw [DpAll.length hD7, List.length_map]
    -- what pair_of says of the good ones
    have good : bot x y = "even" → 0 < x ∧ 0 < y := fun h => by
      unfold bot at h
      constructor
      · refine Nat.pos_of_ne_zero fun z => ?_
        subst z
        by_cases hy : y = 0
        · rw [if_pos hy] at h; revert h; decide +kernel
        · rw [if_neg hy, if_pos rfl] at h; revert h; decide +kernel
      · refine Nat.pos_of_ne_zero fun z => ?_
        rw [if_pos z] at h; revert h; decide +kernel
    have hb3 : (bot x y = "even" ∧ 0 < x ∧ 0 < y) ∨ (bot x y = "flat" ∧ y = 0 ∧ 0 < x) ∨ (bot x y = "steep" ∧ x = 0 ∧ 0 < y) := by
      have := ok.1
      unfold bot
      by_cases hy : y = 0
      · rw [if_pos hy]; exact .inr (.inl ⟨rfl, hy, by omega⟩)
      · rw [if_neg hy]
        by_cases hx : x = 0
        · rw [if_pos hx]; exact .inr (.inr ⟨rfl, hx, by omega⟩)
        · rw [if_neg hx]; exact .inl ⟨rfl, by omega, by omega⟩
    have bnd : ∀ i, (buildP (Nat.gcd x y) ((R x y).drop i)).1 ≤ x + y ∧ (buildP (Nat.gcd x y) ((R x y).drop i)).2 ≤ x + y := fun i => by
      have h1 := buildP_le_drop (Nat.gcd x y) (R x y) i
      rcases hb3 with ⟨_, hx, hy⟩ | ⟨hb, hy, hx⟩ | ⟨hb, hx, hy⟩
      · rw [buildP_R x y hx hy] at h1
        exact ⟨Nat.le_trans h1.1 (Nat.le_add_right _ _), Nat.le_trans h1.2 (Nat.le_add_left _ _)⟩
      · rw [R_nil (by omega)] at h1 ⊢
        subst hy
        rw [Nat.gcd_zero_right] at h1 ⊢
        exact ⟨h1.1, h1.2⟩
      · rw [R_nil (by omega)] at h1 ⊢
        subst hx
        rw [Nat.gcd_zero_left] at h1 ⊢
        exact ⟨Nat.le_trans h1.1 (Nat.le_add_left _ _), Nat.le_trans h1.2 (Nat.le_add_left _ _)⟩
    have p41 : x + y < 2 ^ 4000 := by
      have : 2 ^ 3000 + 2 ^ 3000 ≤ 2 ^ 4000 := by
        rw [← Nat.two_mul, ← Nat.pow_succ']
        exact Nat.pow_le_pow_right (by decide) (by decide)
      omega
    have bnd4 : ∀ i, (buildP (Nat.gcd x y) ((R x y).drop i)).1 < 2 ^ 4000 ∧ (buildP (Nat.gcd x y) ((R x y).drop i)).2 < 2 ^ 4000 := fun i => ⟨Nat.lt_of_le_of_lt (bnd i).1 p41, Nat.lt_of_le_of_lt (bnd i).2 p41⟩
    have cnt4 : ∀ r ∈ R x y, r.2 < 2 ^ 4000 := fun r hr => Nat.lt_of_le_of_lt (R_cnt x y r hr) p41
    have lt4 : x < 2 ^ 4000 ∧ y < 2 ^ 4000 := ⟨by omega, by omega⟩
    have hP : ∀ (a' : Addr) (us' : List V) (H' : Hp) (Q : VK) (E : XK), SqL K H' a' us' → DpAll K H' us' ((R x y).map runD) → (∀ v H'', Same H' H'' → PairAt K H'' v x y → Q v H'') → sp_pair_of K [.ref a', .str (bot x y), .int ((Nat.gcd x y : Nat) : Int)] H' Q E := fun a' us' H' Q E h1 h2 h3 => by
      rcases hb3 with ⟨hb, hx, hy⟩ | ⟨hb, hy, hx⟩ | ⟨hb, hx, hy⟩
      · exact .inl ⟨a', us', R x y, Nat.gcd x y, by rw [hb], h1, h2, AltP_R x y, hg, by omega, bnd4, cnt4, fun v H'' e p => h3 v H'' e (by rw [buildP_R x y hx hy] at p; exact p)⟩
      · have e0 : us' = [] := List.eq_nil_of_length_eq_zero (by rw [DpAll.length h2, R_nil (by omega)]; rfl)
        subst e0
        exact .inr (.inl ⟨a', true, Nat.gcd x y, by rw [hb]; rfl, h1, hg, fun v H'' e p => h3 v H'' e (by subst hy; rw [Nat.gcd_zero_right] at p; exact p)⟩)
      · have e0 : us' = [] := List.eq_nil_of_length_eq_zero (by rw [DpAll.length h2, R_nil (by omega)]; rfl)
        subst e0
        exact .inr (.inl ⟨a', false, Nat.gcd x y, by rw [hb]; rfl, h1, hg, fun v H'' e p => h3 v H'' e (by subst hx; rw [Nat.gcd_zero_left] at p; exact p)⟩)
    have hPt : ∀ (a' : Addr) (us' : List V) (H' : Hp) (Q : VK) (E : XK), SqT K H' a' us' → DpAll K H' us' ((R x y).map runD) → (∀ v H'', Same H' H'' → PairAt K H'' v x y → Q v H'') → sp_pair_of_t K [.ref a', .str (bot x y), .int ((Nat.gcd x y : Nat) : Int)] H' Q E := fun a' us' H' Q E h1 h2 h3 => by
      rcases hb3 with ⟨hb, hx, hy⟩ | ⟨hb, hy, hx⟩ | ⟨hb, hx, hy⟩
      · exact .inl ⟨a', us', R x y, Nat.gcd x y, by rw [hb], h1, h2, AltP_R x y, hg, by omega, bnd4, cnt4, fun v H'' e p => h3 v H'' e (by rw [buildP_R x y hx hy] at p; exact p)⟩
      · have e0 : us' = [] := List.eq_nil_of_length_eq_zero (by rw [DpAll.length h2, R_nil (by omega)]; rfl)
        subst e0
        exact .inr ⟨a', true, Nat.gcd x y, by rw [hb]; rfl, h1, hg, fun v H'' e p => h3 v H'' e (by subst hy; rw [Nat.gcd_zero_right] at p; exact p)⟩
      · have e0 : us' = [] := List.eq_nil_of_length_eq_zero (by rw [DpAll.length h2, R_nil (by omega)]; rfl)
        subst e0
        exact .inr ⟨a', false, Nat.gcd x y, by rw [hb]; rfl, h1, hg, fun v H'' e p => h3 v H'' e (by subst hx; rw [Nat.gcd_zero_left] at p; exact p)⟩
    have dpP : ∀ {v : V} {H' : Hp} {p q : Nat}, PairAt K H' v p q → Dp K H' v (.tuple [.int (p : Int), .int (q : Int)]) := fun {v H' p q} ⟨a', e, h⟩ => by rw [e]; exact .tup h (.cons (.int _) (.cons (.int _) .nil))
    refine ⟨fun σ H' => σ = [some (.ref a), some (.ref b), some (.int (0 + (i : Int))), some (.ref va), some (.ref f), some (.str (bot x y)), some (.int ((Nat.gcd x y : Nat) : Int)), some (.ref gv), t8, t9, none] ∧ Same H7 H', ?_, ?_⟩
    · refine ⟨_, rfl, _, rfl, _, rfl, rfl, rfl, hP gv us H7 _ _ (SqL.of hG7) hD7 fun w1 H8 e8 p8 => ?_⟩
      refine ⟨_, rfl, f, us, rfl, .inl ⟨SqL.of (e8 _ _ hF7), fun tq htq => ?_⟩⟩
      have etq := same_new (o := .tup us) htq
      refine ⟨_, rfl, _, rfl, rfl, rfl, hPt tq us _ _ _ (SqT.of upd_same) (Dp.sameAll (e8.trans etq) hD7) fun w2 H9 e9 p9 => ⟨s2, fun l1 hl1 => ?_⟩⟩
      refine ⟨_, rfl, _, rfl, s2, fun l2 hl2 => ?_⟩
      have el1 := same_new (o := .lst [w1, w2]) hl1
      have el2 := same_new (o := .lst [.ref va, .ref va]) hl2
      have e79 : Same H7 H9 := e8.trans (etq.trans e9)
      have dw1 := Dp.same (etq.trans (e9.trans (el1.trans el2))) (dpP p8)
      have dw2 := Dp.same (el1.trans el2) (dpP p9)
      have dva := Dp.same (e79.trans (el1.trans el2)) (dpP P7)
      refine ⟨.ref l1, .ref l2, .list [.tuple [.int (x : Int), .int (y : Int)], .tuple [.int (x : Int), .int (y : Int)]], rfl, .lst (SqL.of (el2 _ _ upd_same)) (.cons dw1 (.cons dw2 .nil)), .lst (SqL.of upd_same) (.cons dva (.cons dva .nil)), by simp [PyData.depth, PyData.depthAll], by rfl, fun H10 e10 => ⟨_, rfl, ?_⟩⟩
      have e710 : Same H7 H10 := e79.trans (el1.trans (el2.trans e10))
      refine ite_f (by rfl) ?_
      refine ⟨_, rfl, _, rfl, runsD (R x y), runsD (R x y), .lst (SqL.of (e710 _ _ hG7)) (Dp.sameAll e710 hD7), .lst (SqL.of (e710 _ _ hF7)) (Dp.sameAll e710 hD7), shaped_runs _, shaped_runs _, _, rfl, ?_⟩
      refine ite_f (by show (!PyData.eqv (runsD (R x y)) (runsD (R x y))) = false; rw [SeqAt.eqv_refl _ (SeqAt.canLay_of_shaped (shaped_runs _))]; rfl) ⟨rfl, e710⟩
    rintro σ H8 ⟨rfl, e8⟩
    refine ⟨fun σ H' => σ = [some (.ref a), some (.ref b), some (.int (0 + (i : Int))), some (.ref va), some (.ref f), some (.str (bot x y)), some (.int ((Nat.gcd x y : Nat) : Int)), some (.ref gv), t8, t9, none] ∧ Same H7 H', ?_, ?_⟩
    · have hF8 := e8 _ _ hF7
      have hD8 := Dp.sameAll e8 hD7
      refine ⟨_, rfl, rfl, _, rfl, ?_⟩
      rcases hb3 with ⟨hb, hx, hy⟩ | ⟨hb, hy, hx⟩ | ⟨hb, hx, hy⟩
      rotate_left
      · exact ite_f (by rw [hb]; decide +kernel) ⟨rfl, e8⟩
      · exact ite_f (by rw [hb]; decide +kernel) ⟨rfl, e8⟩
      refine ite_t (by rw [hb]; decide +kernel) ?_
      have b1 : ∀ i, (buildP 1 ((R x y).drop i)).1 < 2 ^ 4000 ∧ (buildP 1 ((R x y).drop i)).2 < 2 ^ 4000 := fun i => by
        have h1 := buildP_le_drop 1 (R x y) i
        rw [buildP_one hx hy] at h1
        exact ⟨Nat.lt_of_le_of_lt h1.1 (Nat.lt_of_le_of_lt (Nat.div_le_self _ _) (by omega)), Nat.lt_of_le_of_lt h1.2 (Nat.lt_of_le_of_lt (Nat.div_le_self _ _) (by omega))⟩
      refine ⟨_, rfl, rfl, .inl ⟨f, us, R x y, 1, rfl, SqL.of hF8, hD8, AltP_R x y, Nat.le_refl _, by omega, b1, cnt4, fun w1 H9 e9 p9 => ?_⟩⟩
      rw [buildP_one hx hy] at p9
      have gl : Nat.gcd x y < 2 ^ 4000 := Nat.lt_of_le_of_lt (Nat.gcd_le_left y hx) lt4.1
      obtain ⟨va', ev, hVS8⟩ := P7.same (e8.trans e9)
      cases ev
      refine ⟨_, rfl, va, _, _, _, rfl, rfl, hVS8, at2_0 _ _, _, rfl, _, _, rfl, rfl, okDiv hg gl, ?_⟩
      refine ⟨_, rfl, va, _, _, _, rfl, rfl, hVS8, at2_1 _ _, _, rfl, _, _, rfl, rfl, okDiv hg gl, s2, fun q hq => ?_⟩
      have eq := same_new (o := .tup [.int ((x : Int) / ((Nat.gcd x y : Nat) : Int)), .int ((y : Int) / ((Nat.gcd x y : Nat) : Int))]) hq
      refine ⟨w1, .ref q, .tuple [.int ((x / Nat.gcd x y : Nat) : Int), .int ((y / Nat.gcd x y : Nat) : Int)], rfl, Dp.same eq (dpP p9), .tup (SqT.of upd_same) (.cons ?_ (.cons ?_ .nil)), by simp [PyData.depth, PyData.depthAll], by rfl, fun H10 e10 => ⟨_, rfl, ?_⟩⟩
      · rw [Int.natCast_ediv]; exact .int _
      · rw [Int.natCast_ediv]; exact .int _
      exact ite_f (by rfl) ⟨rfl, e8.trans (e9.trans (eq.trans e10))⟩
    rintro σ H9 ⟨rfl, e9⟩
    have B9 := B7.keep e9
    have T9 := LamX.Tabs.ext T7 e9
    have hF9 := e9 _ _ hF7
    have hD9 := Dp.sameAll e9 hD7
    have fb : f ≠ b := B5.ne hf
    -- bad
    refine ⟨fun σ H' => ∃ (bd : Addr) (w : V), σ = [some (.ref a), some (.ref b), some (.int (0 + (i : Int))), some (.ref va), some (.ref f), some (.str (bot x y)), some (.int ((Nat.gcd x y : Nat) : Int)), some (.ref gv), some (.ref bd), t9, none] ∧ KW K b f us ((R x y).map runD) bd w H' ∧ bd ≠ b, ?_, ?_⟩
    · refine ⟨_, rfl, _, rfl, s2, fun p1 h1 => ⟨_, rfl, s2, fun p2 h2 => ⟨s2, fun p3 h3 => ⟨s2, fun p4 h4 => ⟨s1, fun p5 h5 => ⟨s2, fun p6 h6 => ⟨s8, fun l hl => ?_⟩⟩⟩⟩⟩⟩⟩
      have q1 := badRun_new (K := K) (xs := [.str "X", .int 0]) (ds := [.str "X", .int 0]) h1 (.cons (.str _) (.cons (.int _) .nil)) rfl rfl (by decide +kernel)
      have q2 := badRun_new (K := K) (xs := [.str "Y", .int (-2)]) (ds := [.str "Y", .int (-2)]) h2 (.cons (.str _) (.cons (.int _) .nil)) rfl rfl (by decide +kernel)
      have q3 := badRun_new (K := K) (xs := [.str "x", .int 1]) (ds := [.str "x", .int 1]) h3 (.cons (.str _) (.cons (.int _) .nil)) rfl rfl (by decide +kernel)
      have q4 := badRun_new (K := K) (xs := [.str "X", .bl true]) (ds := [.str "X", .bool true]) h4 (.cons (.str _) (.cons (.bl _) .nil)) rfl rfl (by decide +kernel)
      have q5 := badRun_new (K := K) (xs := [.str "X"]) (ds := [.str "X"]) h5 (.cons (.str _) .nil) rfl rfl rfl
      have q6 := badRun_new (K := K) (xs := [.str "Y", .str "1"]) (ds := [.str "Y", .str "1"]) h6 (.cons (.str _) (.cons (.str _) .nil)) rfl rfl (by decide +kernel)
      have f7 := same_new (o := .lst [.ref p1, .ref p2, .ref p3, .ref p4, .ref p5, .non, .ref p6, .int 3]) hl
      have f6 := (same_new (o := .tup [.str "Y", .str "1"]) h6).trans f7
      have f5 := (same_new (o := .tup [.str "X"]) h5).trans f6
      have f4 := (same_new (o := .tup [.str "X", .bl true]) h4).trans f5
      have f3 := (same_new (o := .tup [.str "x", .int 1]) h3).trans f4
      have f2 := (same_new (o := .tup [.str "Y", .int (-2)]) h2).trans f3
      have f1 := (same_new (o := .tup [.str "X", .int 0]) h1).trans f2
      have BL := B9.keep f1
      have hall : ∀ z ∈ ([.ref p1, .ref p2, .ref p3, .ref p4, .ref p5, .non, .ref p6, .int 3] : List V), BadRun K _ z := List.forall_mem_cons.mpr ⟨q1.same f2, List.forall_mem_cons.mpr ⟨q2.same f3, List.forall_mem_cons.mpr ⟨q3.same f4, List.forall_mem_cons.mpr ⟨q4.same f5, List.forall_mem_cons.mpr ⟨q5.same f6, List.forall_mem_cons.mpr ⟨⟨.none, .non, rfl, rfl, rfl⟩, List.forall_mem_cons.mpr ⟨q6.same f7, List.forall_mem_cons.mpr ⟨⟨.int 3, .int 3, rfl, rfl, rfl⟩, fun x hx => absurd hx List.not_mem_nil⟩⟩⟩⟩⟩⟩⟩⟩
      refine ⟨b, l, _, rfl, BL, fun z => ?_, SqL.of upd_same, (by show 0 < 8; decide), (by show 8 ≤ 1000; decide), fun j w H10 hw B10 k10 => ⟨s1, fun q hq => ?_⟩⟩
      · have := B9.keep ((same_new (o := .tup [.str "X", .int 0]) h1).trans ((same_new (o := .tup [.str "Y", .int (-2)]) h2).trans ((same_new (o := .tup [.str "x", .int 1]) h3).trans ((same_new (o := .tup [.str "X", .bl true]) h4).trans ((same_new (o := .tup [.str "X"]) h5).trans (same_new (o := .tup [.str "Y", .str "1"]) h6))))))
        exact this.ne hl z
      have eq := same_new (o := .lst [w]) hq
      have hF10 := k10 _ _ fb (f1 _ _ hF9)
      have st := (SameT.of f1).trans (BL.sameT k10)
      refine ⟨f, q, us, [w], rfl, rfl, eq _ _ hF10, upd_same, (by
        have h8001 : 8001 ≤ sizeLine := (by decide)
        show us.length + 1 ≤ sizeLine
        omega), fun bd hbd => ?_⟩
      have e10 := eq.trans (same_new (o := .lst (us ++ [w])) hbd)
      refine ⟨bd, w, rfl, ?_, (B10.keep eq).ne hbd⟩
      exact ⟨B10.keep e10, LamX.Tabs.ext (tabs_sameT st T9) e10, e10 _ _ hF10, Dp.sameAll e10 (Dp.sameTs st (noLs_map noL_runD _) hD9), upd_same, ((hall w (List.mem_of_getElem? hw)).sameT (BL.sameT k10)).same e10⟩
    rintro σ H10 ⟨bd, w, rfl, W10, nbd⟩
    have hrs : noLs ((R x y).map runD) = true := noLs_map noL_runD _
    -- asks
    refine ⟨W10.tabs, fun G1 f1 n1 T1 L1 m1 => ⟨s1, fun q1 hq1 => ?_⟩⟩
    have x1 := n1.trans (extN_same (same_new (o := .lst [.ref f1]) hq1))
    have TA := T1.ext (same_new (o := .lst [.ref f1]) hq1)
    have LA1 := lam_ext (extN_same (same_new (o := .lst [.ref f1]) hq1)) L1
    have qa1 : (upd G1 q1 (.lst [.ref f1])) q1 = some (.lst [.ref f1]) := upd_same
    generalize upd G1 q1 (.lst [.ref f1]) = J1 at *
    refine ⟨_, rfl, TA, fun G2 f2 n2 T2 L2 m2 => ⟨s1, fun q2 hq2 => ?_⟩⟩
    have y2 := same_new (o := .lst [.ref f2]) hq2
    refine ⟨q1, q2, [.ref f1], [.ref f2], rfl, rfl, y2 _ _ (n2 _ _ qa1 (fun _ z => by cases z)), upd_same, s2, fun a2 ha2 => ?_⟩
    have z2 := y2.trans (same_new (o := .lst ([.ref f1] ++ [.ref f2])) ha2)
    have x2 := x1.trans (n2.trans (extN_same z2))
    have TB2 := T2.ext z2
    have LB1 := lam_ext (n2.trans (extN_same z2)) LA1
    have LB2 := lam_ext (extN_same z2) L2
    have qa2 : (upd (upd G2 q2 (.lst [.ref f2])) a2 (.lst ([.ref f1] ++ [.ref f2]))) a2 = some (.lst [.ref f1, .ref f2]) := upd_same
    generalize upd (upd G2 q2 (.lst [.ref f2])) a2 (.lst ([.ref f1] ++ [.ref f2])) = J2 at *
    refine ⟨_, rfl, TB2, fun G3 f3 n3 T3 L3 m3 => ⟨s1, fun q3 hq3 => ?_⟩⟩
    have y3 := same_new (o := .lst [.ref f3]) hq3
    refine ⟨a2, q3, [.ref f1, .ref f2], [.ref f3], rfl, rfl, y3 _ _ (n3 _ _ qa2 (fun _ z => by cases z)), upd_same, s3, fun a3 ha3 => ?_⟩
    have z3 := y3.trans (same_new (o := .lst ([.ref f1, .ref f2] ++ [.ref f3])) ha3)
    have x3 := x2.trans (n3.trans (extN_same z3))
    have TB3 := T3.ext z3
    have LC1 := lam_ext (n3.trans (extN_same z3)) LB1
    have LC2 := lam_ext (n3.trans (extN_same z3)) LB2
    have LC3 := lam_ext (extN_same z3) L3
    have qa3 : (upd (upd G3 q3 (.lst [.ref f3])) a3 (.lst ([.ref f1, .ref f2] ++ [.ref f3]))) a3 = some (.lst [.ref f1, .ref f2, .ref f3]) := upd_same
    generalize upd (upd G3 q3 (.lst [.ref f3])) a3 (.lst ([.ref f1, .ref f2] ++ [.ref f3])) = J3 at *
    refine ⟨_, rfl, TB3, fun G4 f4 n4 T4 L4 m4 => ⟨s1, fun q4 hq4 => ?_⟩⟩
    have y4 := same_new (o := .lst [.ref f4]) hq4
    refine ⟨a3, q4, [.ref f1, .ref f2, .ref f3], [.ref f4], rfl, rfl, y4 _ _ (n4 _ _ qa3 (fun _ z => by cases z)), upd_same, (by show 4 ≤ sizeLine; decide), fun a4 ha4 => ?_⟩
    have z4 := y4.trans (same_new (o := .lst ([.ref f1, .ref f2, .ref f3] ++ [.ref f4])) ha4)
    have x4 := x3.trans (n4.trans (extN_same z4))
    have TB4 := T4.ext z4
    have LD1 := lam_ext (n4.trans (extN_same z4)) LC1
    have LD2 := lam_ext (n4.trans (extN_same z4)) LC2
    have LD3 := lam_ext (n4.trans (extN_same z4)) LC3
    have LD4 := lam_ext (extN_same z4) L4
    have qa4 : (upd (upd G4 q4 (.lst [.ref f4])) a4 (.lst ([.ref f1, .ref f2, .ref f3] ++ [.ref f4]))) a4 = some (.lst [.ref f1, .ref f2, .ref f3, .ref f4]) := upd_same
    generalize upd (upd G4 q4 (.lst [.ref f4])) a4 (.lst ([.ref f1, .ref f2, .ref f3] ++ [.ref f4])) = J4 at *
    refine ⟨_, rfl, TB4, fun G5 f5 n5 T5 L5 m5 => ⟨s1, fun q5 hq5 => ?_⟩⟩
    have y5 := same_new (o := .lst [.ref f5]) hq5
    refine ⟨a4, q5, [.ref f1, .ref f2, .ref f3, .ref f4], [.ref f5], rfl, rfl, y5 _ _ (n5 _ _ qa4 (fun _ z => by cases z)), upd_same, (by show 5 ≤ sizeLine; decide), fun al hal => ?_⟩
    have z5 := y5.trans (same_new (o := .lst ([.ref f1, .ref f2, .ref f3, .ref f4] ++ [.ref f5])) hal)
    have x5 := x4.trans (n5.trans (extN_same z5))
    have W5 : K5 K b f bd al us ((R x y).map runD) w f1 f2 f3 f4 f5 _ _ _ _ _ (upd (upd G5 q5 (.lst [.ref f5])) al (.lst ([.ref f1, .ref f2, .ref f3, .ref f4] ++ [.ref f5]))) :=
      ⟨W10.step hrs x5 (T5.ext z5), upd_same, lam_ext (n5.trans (extN_same z5)) LD1, lam_ext (n5.trans (extN_same z5)) LD2, lam_ext (n5.trans (extN_same z5)) LD3, lam_ext (n5.trans (extN_same z5)) LD4, lam_ext (extN_same z5) L5⟩
    have nal : al ≠ b := fun z => by
      have B5' := (W10.bag.extN (x4.trans n5)).keep y5
      exact B5'.ne hal z
    generalize upd (upd G5 q5 (.lst [.ref f5])) al (.lst ([.ref f1, .ref f2, .ref f3, .ref f4] ++ [.ref f5])) = J5 at *
    clear LD1 LD2 LD3 LD4 LC1 LC2 LC3 LB1 LB2 LA1 L1 L2 L3 L4 L5 x1 x2 x3 x4
    -- [_law_try(ask) for ask in asks]
    refine ⟨_, rfl, al, rfl, ⟨_, SqL.of W5.al⟩, fun D hD0 => ?_⟩
    have nD : D ≠ b := W5.w.bag.ne hD0
    obtain ⟨c0, r0, hc0, oc0, hoc0⟩ := W5.w.bag.inn
    have nc : c0 ≠ D := ne_of_none hoc0 hD0
    have nf : f ≠ D := ne_of_none W5.w.hf hD0
    have nb2 : bd ≠ D := ne_of_none W5.w.hb hD0
    have na2 : al ≠ D := ne_of_none W5.al hD0
    have e0D := same_new (o := .lst []) hD0
    refine lc_list (K := K) (a := al) (xs := [.ref f1, .ref f2, .ref f3, .ref f4, .ref f5]) (fun i H' => K5 K b f bd al us ((R x y).map runD) w f1 f2 f3 f4 f5 _ _ _ _ _ H' ∧ (∃ r, H' b = some (.lst (.ref c0 :: r))) ∧ ∃ acc : List V, H' D = some (.lst acc) ∧ acc.length = i ∧ ∀ z ∈ acc, Dp K H' z (.tuple [.str "InvalidPath", .none])) ⟨W5.same hrs e0D, ⟨_, e0D _ _ hc0⟩, [], upd_same, rfl, fun z hz => absurd hz List.not_mem_nil⟩ (fun i H' _ q => SqL.of q.1.al) ?_ ?_
    · rintro i z H12 hz ⟨W12, ⟨rb, hrb⟩, acc, hD12, la, dacc⟩
      have hi5 : i < 5 := (List.getElem?_eq_some_iff.mp hz).1
      -- the end of each
      have fin : ∀ {A1 A2 A3 A4 A5 : LInf} (H' : Hp) (d : Addr), K5 K b f bd al us ((R x y).map runD) w f1 f2 f3 f4 f5 A1 A2 A3 A4 A5 H' → (∃ r, H' b = some (.lst (.ref c0 :: r))) → H' D = some (.lst acc) → (∀ z ∈ acc, Dp K H' z (.tuple [.str "InvalidPath", .none])) → H' d = none →
          ETry K (He.ga K "PathError") (fun yy H4 => ∃ acc' : List V, H4 D = some (.lst acc') ∧ acc'.length < sizeLine ∧ (K5 K b f bd al us ((R x y).map runD) w f1 f2 f3 f4 f5 A1 A2 A3 A4 A5 (upd H4 D (.lst (acc' ++ [yy]))) ∧ (∃ r, upd H4 D (.lst (acc' ++ [yy])) b = some (.lst (.ref c0 :: r))) ∧ ∃ acc2 : List V, upd H4 D (.lst (acc' ++ [yy])) D = some (.lst acc2) ∧ acc2.length = i + 1 ∧ ∀ z ∈ acc2, Dp K (upd H4 D (.lst (acc' ++ [yy]))) z (.tuple [.str "InvalidPath", .none])))
            (.ref (He.ga K "InvalidPath")) (some d) (upd H' d (.xd [("tag", .str "InvalidPath")]))   := fun {A1 A2 A3 A4 A5} H' d W' ⟨r', hr'⟩ hD' da hd => by
        refine ⟨He.ga K "InvalidPath", d, [("tag", .str "InvalidPath")], "InvalidPath", .non, rfl, rfl, En.exm_InvalidPath_PathError E, upd_same, En.xf_InvalidPath E, En.xno_InvalidPath_tag E, rfl, ?_, fun H7 e7 p hp => ?_⟩
        · unfold FldOk
          rw [show fldOf "InvalidPath" = none by decide +kernel]
        have ee : Same H' (upd H7 p (.tup [.str "InvalidPath", .non])) := (same_new hd).trans (e7.trans (same_new hp))
        have dp : Dp K (upd H7 p (.tup [.str "InvalidPath", .non])) (.ref p) (.tuple [.str "InvalidPath", .none]) := .tup (SqT.of upd_same) (.cons (.str _) (.cons .non .nil))
        have hD2 := ee _ _ hD'
        have hb2 := ee _ _ hr'
        have W2 := W'.same hrs ee
        have da2 : ∀ z ∈ acc, Dp K (upd H7 p (.tup [.str "InvalidPath", .non])) z (.tuple [.str "InvalidPath", .none]) := fun z hz => Dp.same ee (da z hz)
        generalize upd H7 p (.tup [.str "InvalidPath", .non]) = H8 at *
        have st : SameT H8 (upd H8 D (.lst (acc ++ [.ref p]))) := .put hD2
        refine ⟨acc, hD2, szl (by omega), W2.put hrs nf nb2 na2 (W2.w.bag.other hb2 nD nc) hD2, ⟨_, by rw [upd_ne nD.symm]; exact hb2⟩, acc ++ [.ref p], upd_same, by rw [List.length_append, la]; rfl, fun z hz => ?_⟩
        rcases List.mem_append.mp hz with q | q
        · exact Dp.sameT st rfl (da2 z q)
        · rw [List.mem_singleton.mp q]
          exact Dp.sameT st rfl dp
      have dIP : ∀ {Ha Hb : Hp}, SameT Ha Hb → (∀ z ∈ acc, Dp K Ha z (.tuple [.str "InvalidPath", .none])) → ∀ z ∈ acc, Dp K Hb z (.tuple [.str "InvalidPath", .none]) := fun e h z hz => Dp.sameT e rfl (h z hz)
      have frs : ∀ d ∈ (R x y).map runD, runFl d = true := fun d hd => by
        obtain ⟨r, _, rfl⟩ := List.mem_map.mp hd
        rfl
      have lus : us.length ≤ 9000 := by omega
      match i, hz with
      | 0, hz =>
        cases hz
        refine ⟨rfl, _, rfl, f1, _, _, rfl, .head _, rfl, W12.l1, ?_⟩
        obtain ⟨dw, hw, nw, fw, ow⟩ := W12.w.bad
        refine ⟨_, rfl, _, rfl, rfl, rfl, .inr (.inr (.inl ⟨bd, us ++ [w], _, _, (R x y).map runD ++ [dw], .str "even", .int ((Nat.gcd x y : Nat) : Int), rfl, SqL.of W12.w.hb, DpAll.append W12.w.du (.cons hw .nil), .str _, .int _, rfl, fun d hd => ?_, ?_, ?_, fun H' d e hd => fin H' d (W12.same hrs e) ⟨rb, e _ _ hrb⟩ (e _ _ hD12) (fun z hz => Dp.same e (dacc z hz)) hd⟩))⟩
        · rcases List.mem_append.mp hd with q | q
          · exact frs d q
          · rw [List.mem_singleton.mp q]; exact fw
        · rw [List.length_append]; show us.length + 1 ≤ 9000; omega
        · rw [List.all_append, List.all_cons, ow, Bool.false_and, Bool.and_false, Bool.and_false, Bool.and_false]
      | 1, hz =>
        cases hz
        refine ⟨rfl, _, rfl, f2, _, _, rfl, .tail _ (.head _), rfl, W12.l2, ?_⟩
        refine ⟨_, rfl, _, rfl, (by show 5 ≤ sizeLine; decide), fun l hl => ?_⟩
        have el := same_new (o := .lst [.str "Even", .non, .str "", .int 3, .str "bottom"]) hl
        refine ⟨b, l, _, rfl, W12.w.bag.keep el, W12.w.bag.ne hl, SqL.of upd_same, (by show 0 < 5; decide), (by show 5 ≤ 1000; decide), fun j z H13 hz B13 k13 => ?_⟩
        have W13 := (W12.same hrs el).kp hrs fb nbd nal B13 k13
        have hD13 := k13 _ _ nD (el _ _ hD12)
        obtain ⟨r13, hr13⟩ := k13.inn _ _ (el _ _ hrb)
        have da13 := dIP ((SameT.of el).trans ((W12.w.bag.keep el).sameT k13)) dacc
        obtain ⟨db, hdb, fdb, ndb⟩ : ∃ db, Dp K H13 z db ∧ flatPD db = true ∧ inS baseS db = false := by
          match j, hz with
          | 0, hz => cases hz; exact ⟨.str "Even", .str _, rfl, by decide +kernel⟩
          | 1, hz => cases hz; exact ⟨.none, .non, rfl, rfl⟩
          | 2, hz => cases hz; exact ⟨.str "", .str _, rfl, by decide +kernel⟩
          | 3, hz => cases hz; exact ⟨.int 3, .int _, rfl, rfl⟩
          | 4, hz => cases hz; exact ⟨.str "bottom", .str _, rfl, by decide +kernel⟩
        exact ⟨_, rfl, rfl, rfl, .inr (.inr (.inl ⟨f, us, z, _, (R x y).map runD, db, .int ((Nat.gcd x y : Nat) : Int), rfl, SqL.of W13.w.hf, W13.w.du, hdb, .int _, fdb, frs, lus, by rw [ndb]; rfl, fun H' d e hd => fin H' d (W13.same hrs e) ⟨r13, e _ _ hr13⟩ (e _ _ hD13) (fun z hz => Dp.same e (da13 z hz)) hd⟩))⟩
      | 2, hz =>
        cases hz
        refine ⟨rfl, _, rfl, f3, _, _, rfl, .tail _ (.tail _ (.head _)), rfl, W12.l3, ?_⟩
        refine ⟨_, rfl, _, rfl, _, rfl, _, rfl, (by show 5 ≤ sizeLine; decide), fun l hl => ?_⟩
        have el := same_new (o := .lst [.int 0, .int (-1), .non, .bl true, .str "2"]) hl
        refine ⟨b, l, _, rfl, W12.w.bag.keep el, W12.w.bag.ne hl, SqL.of upd_same, (by show 0 < 5; decide), (by show 5 ≤ 1000; decide), fun j z H13 hz B13 k13 => ?_⟩
        have W13 := (W12.same hrs el).kp hrs fb nbd nal B13 k13
        have hD13 := k13 _ _ nD (el _ _ hD12)
        obtain ⟨r13, hr13⟩ := k13.inn _ _ (el _ _ hrb)
        have da13 := dIP ((SameT.of el).trans ((W12.w.bag.keep el).sameT k13)) dacc
        obtain ⟨dg, hdg, ndg⟩ : ∃ dg, Dp K H13 z dg ∧ posD dg = false := by
          match j, hz with
          | 0, hz => cases hz; exact ⟨.int 0, .int _, rfl⟩
          | 1, hz => cases hz; exact ⟨.int (-1), .int _, rfl⟩
          | 2, hz => cases hz; exact ⟨.none, .non, rfl⟩
          | 3, hz => cases hz; exact ⟨.bool true, .bl _, rfl⟩
          | 4, hz => cases hz; exact ⟨.str "2", .str _, rfl⟩
        exact ⟨rfl, rfl, .inr (.inr (.inl ⟨f, us, _, z, (R x y).map runD, .str (bot x y), dg, rfl, SqL.of W13.w.hf, W13.w.du, .str _, hdg, rfl, frs, lus, by rw [ndg, Bool.false_and, Bool.and_false], fun H' d e hd => fin H' d (W13.same hrs e) ⟨r13, e _ _ hr13⟩ (e _ _ hD13) (fun z hz => Dp.same e (da13 z hz)) hd⟩))⟩
      | 3, hz =>
        cases hz
        refine ⟨rfl, _, rfl, f4, _, _, rfl, .tail _ (.tail _ (.tail _ (.head _))), rfl, W12.l4, ?_⟩
        refine ⟨s2, fun p hp => ⟨s1, fun l1 hl1 => ⟨_, rfl, s2, fun l hl => ?_⟩⟩⟩
        have ep := same_new (o := .tup [.str "X", .int 2]) hp
        have el1 := same_new (o := .lst [.ref p]) hl1
        have el := same_new (o := .lst [.str "flat", .str "steep"]) hl
        have nl1 : l1 ≠ b := (W12.w.bag.keep ep).ne hl1
        have el3 := ep.trans (el1.trans el)
        refine ⟨b, l, _, rfl, W12.w.bag.keep el3, (W12.w.bag.keep (ep.trans el1)).ne hl, SqL.of upd_same, (by show 0 < 2; decide), (by show 2 ≤ 1000; decide), fun j z H13 hz B13 k13 => ?_⟩
        have W13 := (W12.same hrs el3).kp hrs fb nbd nal B13 k13
        have hD13 := k13 _ _ nD (el3 _ _ hD12)
        obtain ⟨r13, hr13⟩ := k13.inn _ _ (el3 _ _ hrb)
        have stk := (W12.w.bag.keep el3).sameT k13
        have da13 := dIP ((SameT.of el3).trans stk) dacc
        have hl13 := k13 _ _ nl1 (el _ _ (show (_root_.L2.upd _ l1 (.lst [.ref p])) l1 = some (.lst [.ref p]) from upd_same))
        have dp13 : Dp K H13 (.ref p) (runD (true, 2)) := Dp.sameT stk rfl (Dp.same (el1.trans el) (.tup (SqT.of upd_same) (.cons (.str _) (.cons (.int _) .nil))))
        obtain ⟨w', rfl, hw1, hw2⟩ : ∃ w' : Str, z = .str w' ∧ inS baseS (.str w') = true ∧ decide (V.str w' = V.str "even") = false := by
          match j, hz with
          | 0, hz => cases hz; exact ⟨"flat", rfl, by decide +kernel, by decide +kernel⟩
          | 1, hz => cases hz; exact ⟨"steep", rfl, by decide +kernel, by decide +kernel⟩
        exact ⟨_, rfl, rfl, rfl, .inr (.inr (.inr ⟨l1, [.ref p], w', [(true, 2)], Nat.gcd x y, rfl, SqL.of hl13, .cons dp13 .nil, fun r hr => by rw [List.mem_singleton.mp hr]; decide, hg, by decide, hw1, by rw [hw2]; rfl, fun H' d e hd => fin H' d (W13.same hrs e) ⟨r13, e _ _ hr13⟩ (e _ _ hD13) (fun z hz => Dp.same e (da13 z hz)) hd⟩))⟩
      | 4, hz =>
        cases hz
        refine ⟨rfl, _, rfl, f5, _, _, rfl, .tail _ (.tail _ (.tail _ (.tail _ (.head _)))), rfl, W12.l5, ?_⟩
        refine ⟨s2, fun p1 h1 => ⟨_, rfl, s2, fun p2 h2 => ⟨s2, fun l hl => ⟨rfl, rfl, ?_⟩⟩⟩⟩
        have ep1 := same_new (o := .tup [.str "Y", .int 1]) h1
        have ep2 := same_new (o := .tup [.str "Y", .int ((Nat.gcd x y : Nat) : Int)]) h2
        have el := same_new (o := .lst [.ref p1, .ref p2]) hl
        have ee := ep1.trans (ep2.trans el)
        have d1 : Dp K _ (.ref p1) (runD (false, 1)) := Dp.same (ep2.trans el) (.tup (SqT.of upd_same) (.cons (.str _) (.cons (.int _) .nil)))
        have d2 : Dp K _ (.ref p2) (runD (false, Nat.gcd x y)) := Dp.same el (.tup (SqT.of upd_same) (.cons (.str _) (.cons (.int _) .nil)))
        refine .inr (.inr (.inr ⟨l, [.ref p1, .ref p2], "even", [(false, 1), (false, Nat.gcd x y)], 1, rfl, SqL.of upd_same, .cons d1 (.cons d2 .nil), fun r hr => ?_, Nat.le_refl _, by show 2 ≤ 9000; decide, by decide +kernel, rfl, fun H' d e hd => fin H' d (W12.same hrs (ee.trans e)) ⟨rb, (ee.trans e) _ _ hrb⟩ ((ee.trans e) _ _ hD12) (fun z hz => Dp.same (ee.trans e) (dacc z hz)) hd⟩))
        rcases List.mem_cons.mp hr with q | q
        · rw [q]; exact Nat.le_refl _
        · rw [List.mem_singleton.mp q]; exact hg
    rintro H12 ⟨W12, _, acc, hD12, la, dacc⟩
    refine ⟨s2, fun tp htp => ⟨s1, fun l hl => ⟨l, 5, [.ref tp], rfl, rfl, upd_same, by decide, by decide, by show 1 * 5 ≤ sizeLine; decide, fun l2 hl2 => ?_⟩⟩⟩
    have e1 := same_new (o := .tup [.str "InvalidPath", .non]) htp
    have e2 := same_new (o := .lst [.ref tp]) hl
    have e3 := same_new (o := .lst (List.replicate (5 : Int).toNat [V.ref tp]).flatten) hl2
    have dtp : Dp K _ (.ref tp) (.tuple [.str "InvalidPath", .none]) := Dp.same (e2.trans e3) (.tup (SqT.of upd_same) (.cons (.str _) (.cons .non .nil)))
    have ee := e1.trans (e2.trans e3)
    refine ⟨.list (List.replicate 5 (.tuple [.str "InvalidPath", .none])), .list (List.replicate 5 (.tuple [.str "InvalidPath", .none])), .lst (SqL.of (ee _ _ hD12)) (dpAllRep la fun z hz => Dp.same ee (dacc z hz)), .lst (SqL.of upd_same) (.cons dtp (.cons dtp (.cons dtp (.cons dtp (.cons dtp .nil))))), by decide +kernel, by decide +kernel, _, rfl, ?_⟩
    refine ite_f (by decide +kernel) ?_
    exact ⟨_, _, _, _, _, _, _, _, rfl, W12.w.bag.keep ee, W12.w.tabs.ext ee⟩

end
theorem all (P : Program) (w : World) (base : Heap) {K : PySem.W.Frag} {mg : Str → Option Value} {fd : FuncData} (E : En K mg) (MP : MainP P "/claim/cut.py") (SS : SaysS fns K) (TB : LamX.TabB base mg (He.cT K ("law", none)).1 (He.cT K ("law", none)).2) (F : FunD K "law" "law" (defArgs s_law) (defBody s_law) (defScope s_law) [] [] (He.ga K "law") fd) :
    FnOk P w K mg base CX0 16 (He.ga K "law") fd ["script"] (sp_law K) := by
  have X_InvalidPath := okx_InvalidPath (P := P) (w := w) (base := base) E MP SS
  have G_is_number := ok_is_number (P := P) (w := w) (base := base) E
  have G_is_run := ok_is_run (P := P) (w := w) (base := base) E G_is_number
  have G_pair_of_t := ok_pair_of_t (P := P) (w := w) (base := base) E G_is_run G_is_number
  have G_pair_of := ok_pair_of (P := P) (w := w) (base := base) E G_is_run G_is_number X_InvalidPath
  have G__law_field := ok__law_field (P := P) (w := w) (base := base) E
  have G__law_try := ok__law_try (P := P) (w := w) (base := base) E G__law_field
  have G__law_pull := ok__law_pull (P := P) (w := w) (base := base) E
  have G__law_of := ok__law_of (P := P) (w := w) (base := base) E G__law_pull
  have G__law_same := ok__law_same (P := P) (w := w) (base := base) E
  have G__law_gcd := ok__law_gcd (P := P) (w := w) (base := base) E
  have G__law_bottom := ok__law_bottom (P := P) (w := w) (base := base) E
  have G__law_runs := ok__law_runs (P := P) (w := w) (base := base) E
  have G__law_far_pair := ok__law_far_pair (P := P) (w := w) (base := base) E G__law_pull G__law_of
  have G__law_pair := ok__law_pair (P := P) (w := w) (base := base) E G__law_pull
  have G__law_bag := ok__law_bag (P := P) (w := w) (base := base) E
  exact ok_law F E TB G_pair_of_t G_pair_of G__law_field G__law_try G__law_of G__law_same G__law_gcd G__law_bottom G__law_runs G__law_far_pair G__law_pair G__law_bag
abbrev Rw : PySem.W.OpenRow := PySem.W.OpenLaw.row PySem.Challenge.rw_addpath_k03_pairs_of_paths
abbrev hk : PySem.W.Hook := hookW 6 fal fnl fna fns [("law", none)] exf
def ob (s : PySem.W.SharedT) : AlW := obsW 6 fal fnl fna fns [("law", none)] exf (HandSHeadRun.getT s)
theorem ob_eq (s : PySem.W.SharedT) : ob s = hk.obs s.abs := obsW_eq (HandSHeadRun.getT_eq s)
def loose : List Str := "PathError" :: "Missing" :: "InvalidPath" :: "NothingLeft" :: "is_number" :: "LETTERS" :: "BOTTOMS" :: "is_run" :: "pair_of" :: "_law_bag" :: "_law_pull" :: "_law_of" :: "_law_same" :: "_law_field" :: "_law_try" :: "_law_gcd" :: "_law_pair" :: "_law_runs" :: "_law_bottom" :: "_law_far_pair" :: []
theorem run (w : World) : HandSHeadRun.RunEq Rw (PySem.W.view Rw.prog [24]) hk ob 3000 loose w := by
  intro os
  kernel_rfl
end Lw
open PySem PySem.W PySem.Calls PyProof.Rows
set_option maxRecDepth 100000 in
set_option maxHeartbeats 0 in
theorem PySem.Challenge.cw_addpath_k03_pairs_of_paths_holds : PySem.Challenge.rw_addpath_k03_pairs_of_paths.Holds := by
  w_on; o_law
  refine HandSHeadRun.head_any (r := OpenLaw.row PySem.Challenge.rw_addpath_k03_pairs_of_paths) (q := view (OpenLaw.row PySem.Challenge.rw_addpath_k03_pairs_of_paths).prog [24]) (H := Lw.hk) (ob := Lw.ob) (M := 3000) (loose := Lw.loose) (d := HandSHeadRun.topDef (OpenLaw.row PySem.Challenge.rw_addpath_k03_pairs_of_paths).prog 24) (kwd := []) Lw.ob_eq
    (by kernel_rfl) (fun s => by kernel_rfl) Lw.run (by kernel_rfl) (by kernel_rfl) (by kernel_rfl) (by rfl) (by first | assumption | decide +kernel) (by decide +kernel) ⟨rfl, rfl, rfl, rfl, rfl, by decide +kernel⟩ ?hw ?hc
  case hw => w_witness2
  case hc =>
    refine LamX.walk_ofTsE (l := PySem.Challenge.rw_addpath_k03_pairs_of_paths) (n := 63) (k := 16) (x := "script") (CX := fun _ => L2.CX0) rfl (by decide) (by kernel_rfl) ⟨rfl, by decide, by decide⟩ ?F (fun _ _ _ _ _ z => z)
    intro w mg fa h Y G hmg0
    obtain ⟨K, KX, c⟩ := Y
    have hmg : mg ("law" : PySem.Str) = some (.ref fa) := by
      have e : (HandSHeadRun.topDef (OpenLaw.row PySem.Challenge.rw_addpath_k03_pairs_of_paths).prog 24).name = ("law" : PySem.Str) := by kernel_rfl
      rw [← e]
      exact hmg0
    refine ⟨K, KX, ?_⟩
    exact Bx.closingW (sp := Lw.sp_law) KX G hmg c (fun E => Lw.En.gl E "law") (c.d.def_ 15 (d := Lw.d_law) rfl) (fun base fd E SS TB F => Lw.all _ w base E ⟨by kernel_rfl, by kernel_rfl⟩ SS TB F) (fun F s v => L2.FunD.bindsA (ps := ["script"]) F (fun _ _ _ _ _ _ us hl => match us, hl with | [_], _ => rfl) s [v] rfl)
      (fun H a ns hl hT hS => Lw.sp_law_holds H a ns hl hT hS)
#print axioms PySem.Challenge.cw_addpath_k03_pairs_of_paths_holds
