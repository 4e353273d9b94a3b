import PyProof.Rows.All
import Wide.All
import OpenK.AllK
import Wide.FinOn
import PyProof.EqAt
import PyProof.EqKinds
import PyProof.TupleCall
import KE.KStateDown
import HandS.ForMost
import HandS.More
import HandS.Wide
import HandS.IsInst
import HandS.Zip
import HandS.TupAny
import HandS.Steps
import HandS.Exc
import HandS.Defaults
import HandS.Style
import HandS.Head0
import HandS.Head1
import HandS.Head2
import HandS.HeadEnd
import HandS.HeadHook1
import HandS.HeadHook2
import HandS.HeadHook3
import HandS.HeadHook4
import HandS.Strs
import HandS.Text
import HandS.Walk
import KE.KRevSl
import KE.DatumOrd
import KE.DataMinMax
import KE.KDictDisplayH
import HandS.Conv
import HandS.Small
import HandS.ReplaceLit
import HandS.RaiseMore
import HandS.Codes
import PySem.Challenge.RW_addpath_k04_order_of_pairs
set_option Elab.async false
set_option linter.all false
set_option maxRecDepth 100000
set_option maxHeartbeats 4000000
/-! small things that all defs lean on -/
namespace Bx
open PySem PySem.Spec PyProof.Rows L2
/-- what the head has told: the facts of names, the defs -/
structure Env (fal : List He.Fa) (fnl : List He.DefD) (xf : PySem.W.Frag → Bool) (K : PySem.W.Frag) (mg : Str → Option Value) : Prop where
  ex : ∃ h : Heap, K.In h ∧ h.Ns mainGlobals mg
  says : He.SaysD fal fnl K
  more : xf K = true
theorem Env.ok {fal : List He.Fa} {fnl : List He.DefD} {xf : PySem.W.Frag → Bool} {K : PySem.W.Frag} {mg : Str → Option Value} (E : Env fal fnl xf K mg) {f : He.Fa} (h : f ∈ fal) : f.ok K = true := by
  obtain ⟨i, hi⟩ := List.getElem?_of_mem h
  exact E.says.fact i hi
theorem Env.glo {fal : List He.Fa} {fnl : List He.DefD} {xf : PySem.W.Frag → Bool} {K : PySem.W.Frag} {mg : Str → Option Value} (E : Env fal fnl xf K mg) (x : Str) (h : He.Fa.glo x ∈ fal) : mg x = some (.ref (He.ga K x)) := by
  obtain ⟨hp, X, G⟩ := E.ex
  exact He.glo_ok X G (E.ok h)
theorem Env.free {fal : List He.Fa} {fnl : List He.DefD} {xf : PySem.W.Frag → Bool} {K : PySem.W.Frag} {mg : Str → Option Value} (E : Env fal fnl xf K mg) (x : Str) (h : He.Fa.free x ∈ fal) : mg x = none := by
  obtain ⟨hp, X, G⟩ := E.ex
  exact He.free_ok X G (E.ok h)
/-- a def that stands under the module's name x and keeps its promise -/
def Good (P : Program) (w : World) (K : PySem.W.Frag) (mg : Str → Option Value) (base : Heap) (CX : CXT) (k : Nat) (x : Str) (ps : List Str) (sp : Sp) : Prop :=
  ∃ fd, FnOk P w K mg base CX k (He.ga K x) fd ps sp ∧ Binds K fd ps [] ∧ PySem.W.keepIn K (.ref (He.ga K x)) = true ∧ mg x = some (.ref (He.ga K x))
section
variable {X : Cx} {CX : CXT} {k : Nat} {ps : List Str} {sp : Sp} {E : XK} {x : Str} {p pos : Pos} {e : Expr} {es : List Expr} {t : TA}
theorem pe_G (F : Good X.prog X.w X.K X.mg X.base CX k x ps sp) (hr : Room k X.A) (hg : Gl X x) (hx : Passes CX X E) (ha : PA X (e :: es) t)
    (hdb : (x == ("__debug__" : Str)) = false := by decide) (he : starEach (e :: es) X.env = (false, eval e X.env) :: starEach es X.env := by rfl) (hpl : (backTo pos (starEach es X.env)).any (·.1) = false := by rfl) :
    PE X (.Call (.Name x p) (e :: es) [] pos) (tCall sp [] E t) := by
  obtain ⟨fd, F, b, kp, m⟩ := F
  exact pe_call F hr hg m kp b .nil hx ha hdb he hpl
end
/-- the same, with the def itself: for calls with keywords -/
def GoodD (P : Program) (w : World) (K : PySem.W.Frag) (mg : Str → Option Value) (base : Heap) (CX : CXT) (k : Nat) (d : He.DefD) (x : Str) (ps : List Str) (sp : Sp) : Prop :=
  ∃ fd, FnOk P w K mg base CX k (He.ga K x) fd ps sp ∧ Binds K fd ps [] ∧ PySem.W.keepIn K (.ref (He.ga K x)) = true ∧ mg x = some (.ref (He.ga K x)) ∧ FunD K d.name d.qual d.params d.body d.scope (d.dvs K) (d.kws K) (He.ga K x) fd
theorem GoodD.good {P : Program} {w : World} {K : PySem.W.Frag} {mg : Str → Option Value} {base : Heap} {CX : CXT} {k : Nat} {d : He.DefD} {x : Str} {ps : List Str} {sp : Sp} (h : GoodD P w K mg base CX k d x ps sp) : Good P w K mg base CX k x ps sp := by
  obtain ⟨fd, F, b, kp, m, _⟩ := h
  exact ⟨fd, F, b, kp, m⟩
theorem _root_.L2.FunD.bindsW {K : PySem.W.Frag} {x qual : Str} {params : Arguments} {body : List Stmt} {scope : Scope} {kws : List (Str × V)} {f : Addr} {fd : FuncData} {args : Args} {binds : List (Str × Value)} (F : FunD K x qual params body scope [] kws f fd)
    (h : ∀ (kV doc pm : Value) (an : Option Addr) (cdv ct : Value), bindArgs (PySem.W.fnOf x qual params body scope .none kV doc pm an cdv ct) args = pure binds) (s : Shared) : BindsTo s fd args binds := by
  obtain ⟨oc, od, dV, kV, doc, pm, an, cdv, ct, osl, rfl, lk, hcd, hD, hK⟩ := F.ex
  rcases hD with ⟨_, rfl⟩ | ⟨e, _⟩
  · exact .of_eq (h kV doc pm an cdv ct)
  · exact absurd rfl e
section
variable {X : Cx} {CX : CXT} {k : Nat} {ps ks : List Str} {sp : Sp} {E : XK} {x : Str} {p pos : Pos} {kws : List Keyword} {tk : TA} {d : He.DefD}
/-- f(k = v, ..), all parameters by keywords in their order -/
theorem pe_GK0 (F : GoodD X.prog X.w X.K X.mg X.base CX k d x ps sp) (hr : Room k X.A) (hg : Gl X x) (hx : Passes CX X E)
    (hb : ∀ {fd}, FunD X.K d.name d.qual d.params d.body d.scope (d.dvs X.K) (d.kws X.K) (He.ga X.K x) fd → ∀ (s : Shared) (us : List Value), us.length = ps.length → BindsTo s fd ⟨[], ps.zip us⟩ (ps.zip us))
    (hkw : PK X kws tk) (hall : (backToKw pos (keywordEach kws X.env)).all (·.1.isSome) = true := by rfl) (hks : (backToKw pos (keywordEach kws X.env)).filterMap (·.1) = ps := by rfl)
    (hdb : (x == ("__debug__" : Str)) = false := by decide) (hpl : ((backTo pos (starEach [] X.env)).any (·.1) || (backToKw pos (keywordEach kws X.env)).any (·.1.isNone)) = false := by rfl) :
    PE X (.Call (.Name x p) [] kws pos) (fun σ H Q => tk σ H fun zs H1 => sp zs H1 Q E) := by
  obtain ⟨fd, F, _, kp, m, D⟩ := F
  refine ⟨fun pins s σ H Q I h => ?_⟩
  refine wpAny_Call_Name_kw (ld_glob I hg m ?_ hdb)
  refine PySem.W.callWith_KW0 (h₀ := X.base) I.ok.mod.kin kp hall (thn (hkw.run pos pins s σ H _ I h) fun ws s2 ⟨zs, H2, I2, rz, q2⟩ => ⟨I2.kIn, ?_⟩) hpl
  rw [hks, List.append_nil]
  have l2 : ws.length = ps.length := by rw [← rz.length]; exact F.len _ _ _ _ q2
  refine wpAny_call (codeAny_mono (F.run X.A X.stack s2 H2 ⟨[], ps.zip ws⟩ ws zs Q E hr I2.env0 (hb D s2 ws l2) rz q2) fun r s' hq => ?_)
  cases r with
  | error e => exact hx pins σ H2 s2 e s' I2 hq
  | ok fl =>
    cases fl with
    | ret u => exact I2.after hq
    | next => exact False.elim hq
    | brk => exact False.elim hq
    | cont => exact False.elim hq
end
section
variable {X : Cx} {CX : CXT} {k : Nat} {ps ks : List Str} {sp : Sp} {E : XK} {x : Str} {p pos : Pos} {kws : List Keyword} {tk : TA} {d : He.DefD}
/-- f(k = v, ..), all parameters by keywords, from the last to the first -/
theorem pe_GKr (F : GoodD X.prog X.w X.K X.mg X.base CX k d x ps sp) (hr : Room k X.A) (hg : Gl X x) (hx : Passes CX X E)
    (hb : ∀ {fd}, FunD X.K d.name d.qual d.params d.body d.scope (d.dvs X.K) (d.kws X.K) (He.ga X.K x) fd → ∀ (s : Shared) (us : List Value), us.length = ps.length → BindsTo s fd ⟨[], ps.reverse.zip us⟩ (ps.zip us.reverse))
    (hkw : PK X kws tk) (hall : (backToKw pos (keywordEach kws X.env)).all (·.1.isSome) = true := by rfl) (hks : (backToKw pos (keywordEach kws X.env)).filterMap (·.1) = ps.reverse := by rfl)
    (hdb : (x == ("__debug__" : Str)) = false := by decide) (hpl : ((backTo pos (starEach [] X.env)).any (·.1) || (backToKw pos (keywordEach kws X.env)).any (·.1.isNone)) = false := by rfl) :
    PE X (.Call (.Name x p) [] kws pos) (fun σ H Q => tk σ H fun zs H1 => sp zs.reverse H1 Q E) := by
  obtain ⟨fd, F, _, kp, m, D⟩ := F
  refine ⟨fun pins s σ H Q I h => ?_⟩
  refine wpAny_Call_Name_kw (ld_glob I hg m ?_ hdb)
  refine PySem.W.callWith_KW0 (h₀ := X.base) I.ok.mod.kin kp hall (thn (hkw.run pos pins s σ H _ I h) fun ws s2 ⟨zs, H2, I2, rz, q2⟩ => ⟨I2.kIn, ?_⟩) hpl
  rw [hks, List.append_nil]
  have l2 : ws.length = ps.length := by
    have := F.len _ _ _ _ q2
    rw [List.length_reverse, rz.length] at this
    exact this
  refine wpAny_call (codeAny_mono (F.run X.A X.stack s2 H2 ⟨[], ps.reverse.zip ws⟩ ws.reverse zs.reverse Q E hr I2.env0 (hb D s2 ws l2) rz.reverse q2) fun r s' hq => ?_)
  cases r with
  | error e => exact hx pins σ H2 s2 e s' I2 hq
  | ok fl =>
    cases fl with
    | ret u => exact I2.after hq
    | next => exact False.elim hq
    | brk => exact False.elim hq
    | cont => exact False.elim hq
end
/-- list(t), said with K -/
def rLof (K : PySem.W.Frag) : List V → Hp → VK → Prop := fun xs H Q => ∃ p ys, xs = [.ref p] ∧ (SqL K H p ys ∨ SqT K H p ys) ∧ ∀ l, H l = none → Q (.ref l) (L2.upd H l (.lst ys))
/-- the module's name x is a tuple, plain -/
def tupN (K : PySem.W.Frag) (x : Str) : Bool := match K.lookup (He.ga K x) with
  | some ⟨.type c, none, .seq _ _, _⟩ => decide (c = "tuple")
  | _ => false
theorem tupN_ok {K : PySem.W.Frag} {x : Str} (h : tupN K x = true) (H : Hp) : tyV K "tuple" (.ref (He.ga K x)) H := by
  unfold tupN at h
  cases q : K.lookup (He.ga K x) with
  | none =>
    rw [q] at h
    cases h
  | some o =>
    obtain ⟨oc, od, dt, osl⟩ := o
    rw [q] at h
    cases oc with
    | type c =>
      cases od with
      | none =>
        cases dt with
        | seq its n => exact .inr (.inl ⟨rfl, _, q, congrArg Value.type (of_decide_eq_true h), rfl⟩)
        | _ => cases h
      | some a => cases dt <;> cases h
    | _ => cases od <;> cases dt <;> cases h
theorem ite_f {c : Bool} {A B : Prop} (hc : c = false) (h : B) : if c = true then A else B := by
  rw [hc]
  exact iteF h
theorem ite_t {c : Bool} {A B : Prop} (hc : c = true) (h : A) : if c = true then A else B := by
  rw [hc]
  exact iteT h
theorem dne {i j : Int} (h : i ≠ j) : decide (V.int i = V.int j) = false := decide_eq_false fun z => h (V.int.inj z)
theorem deq {i j : Int} (h : i = j) : decide (V.int i = V.int j) = true := decide_eq_true (congrArg V.int h)
theorem hu64_of {A : Around} {k : Nat} (hr : Room k A) : A.units + 64 < cLine := Nat.lt_of_le_of_lt (Nat.le_refl _) hr.units
theorem closing {fal : List He.Fa} {fnl : List He.DefD} {xf : PySem.W.Frag → Bool} {P : Program} {w : World} {K : PySem.W.Frag} {h : Heap} {mg : Str → Option Value} {fa : Addr} {k : Nat} {sp : PySem.W.Frag → Sp} {pa : Arguments} {bd : List Stmt} {sc : Scope}
    (KX : K.In h) (G : h.Ns mainGlobals mg) (hmg : mg ("law" : Str) = some (.ref fa)) (c : He.SaysD fal fnl K) (cx : xf K = true) (gl : Env fal fnl xf K mg → mg ("law" : Str) = some (.ref (He.ga K "law")))
    (D : ∃ fd, FunD K "law" "law" pa bd sc [] [] (He.ga K "law") fd)
    (F : ∀ (base : Heap) (fd : FuncData), Env fal fnl xf K mg → FunD K "law" "law" pa bd sc [] [] (He.ga K "law") fd → FnOk P w K mg base CX0 k (He.ga K "law") fd ["script"] (sp K))
    (b : ∀ {fd : FuncData}, FunD K "law" "law" pa bd sc [] [] (He.ga K "law") fd → ∀ (s : Shared) (v : Value), BindsTo s fd ⟨[v], []⟩ [("script", v)])
    (hsp : ∀ (H : Hp) (a : Addr) (ns : List Int), ns.length ≤ 63 → SqL K H a (ns.map V.int) → sp K [.ref a] H (fun v _ => v = .bl true) fun _ _ _ => False) :
    ∃ (K : PySem.W.Frag) (fd : FuncData) (sp : Sp), K.In h ∧ (∀ (s : Shared) (u : Value), BindsTo s fd ⟨[u], []⟩ [("script", u)]) ∧
        (∀ (H : Hp) (a : Addr) (ns : List Int), ns.length ≤ 63 → Only H → SqL K H a (ns.map V.int) → sp [.ref a] H (fun v _ => v = .bl true) fun _ _ _ => False) ∧
        ∀ base : Heap, K.In base → base.Ns mainGlobals mg → FnOk P w K mg base CX0 k fa fd ["script"] sp := by
  have E : Env fal fnl xf K mg := ⟨⟨h, KX, G⟩, c, cx⟩
  obtain ⟨fd, hD⟩ := D
  have e := (gl E).symm.trans hmg
  cases e
  exact ⟨K, fd, sp K, KX, b hD, fun H a ns hl _ hS => hsp H a ns hl hS, fun base _ _ => F base fd E hD⟩
end Bx

/-! slices, kinds, places -/
namespace Bx
open PySem PySem.Spec PyProof.Rows L2
theorem cut_to {xs : List V} {n : Nat} (h : xs.length ≤ n) : cutV xs none (some (n : Int)) = xs := by
  unfold cutV
  rw [HT.sIx_none, HT.sIx_nat, Nat.min_eq_right h, List.drop_zero, Nat.sub_zero, List.take_length]
theorem cut63 {xs : List V} (h : xs.length ≤ 63) : cutV xs none (some 63) = xs := cut_to (n := 63) h
theorem cut_from1 (xs : List V) : cutV xs (some 1) none = xs.drop 1 := by
  unfold cutV
  rw [HT.sIx_none, show (1 : Int) = ((1 : Nat) : Int) from rfl, HT.sIx_nat]
  cases xs with
  | nil => rfl
  | cons x r => simp
theorem tyL {K : PySem.W.Frag} {H : Hp} {a : Addr} {xs : List V} (h : SqL K H a xs) : TyX K H (.ref a) (.type "list") := by
  rcases h with (h | ⟨o, h⟩) | ⟨o, its, n, h, c, _⟩
  · exact .base (.lst h)
  · exact .base (.frz h)
  · exact .kList h c
theorem tyT {K : PySem.W.Frag} {H : Hp} {a : Addr} {xs : List V} (h : SqT K H a xs) : TyX K H (.ref a) (.type "tuple") := by
  rcases h with (h | ⟨o, h⟩) | ⟨o, its, n, h, c, _⟩
  · exact .base (.tup h)
  · exact .fTuple h
  · exact .kTuple h c
/-- isinstance(x, T), both built-in -/
theorem isi {K : PySem.W.Frag} {H : Hp} {x : V} {a b : String} {r : Bool} {Q : VK} (t : TyX K H x (.type a)) (e : kitB a b = some r) (q : Q (.bl r) H) : rIsi K [x, .ty b] H Q :=
  ⟨x, .ty b, _, _, r, rfl, .ty b, t, kit_ty e, q⟩
theorem seqT {K : PySem.W.Frag} {H H' : Hp} {a : Addr} {xs : List V} (e : Same H H') (h : SqT K H a xs) : SqT K H' a xs := by
  rcases h with (h | ⟨o, h⟩) | h
  · exact .inl (.inl (e _ _ h))
  · exact .inl (.inr ⟨o, e _ _ h⟩)
  · exact .inr h
theorem same_new {H : Hp} {p : Addr} {o : HO} (h : H p = none) : Same H (upd H p o) := fun b u q => by rw [upd_ne (ne_of_none q h)]; exact q
/-- an object that H does not know may change -/
theorem same_mut {H H' : Hp} {p : Addr} {o : HO} (e : Same H H') (h : H p = none) : Same H (upd H' p o) := fun b u q => by rw [upd_ne (ne_of_none q h)]; exact e b u q
theorem sz {n : Nat} (h : n ≤ 100000) : n ≤ sizeLine := Nat.le_trans h (by decide)
theorem szl {n : Nat} (h : n < 100000) : n < sizeLine := Nat.lt_of_lt_of_le h (by decide)
/-- all but the object at b is as it was -/
def Kp (b : Addr) (H H' : Hp) : Prop := ∀ a o, a ≠ b → H a = some o → H' a = some o
theorem Kp.refl (b : Addr) (H : Hp) : Kp b H H := fun _ _ _ h => h
theorem Kp.trans {b : Addr} {H H1 H2 : Hp} (x : Kp b H H1) (y : Kp b H1 H2) : Kp b H H2 := fun a o n h => y a o n (x a o n h)
theorem Kp.of {b : Addr} {H H' : Hp} (x : Same H H') : Kp b H H' := fun a o _ h => x a o h
theorem Kp.put {b : Addr} {H : Hp} {o : HO} : Kp b H (L2.upd H b o) := fun a u n h => by rw [upd_ne n]; exact h
theorem Kp.new {b p : Addr} {H H' : Hp} {o : HO} (e : Kp b H H') (h : H' p = none) : Kp b H (L2.upd H' p o) := e.trans (Kp.of (same_new h))
end Bx
namespace Bx
open PySem PySem.Spec PyProof.Rows L2
theorem Kp.seq {K : PySem.W.Frag} {b a : Addr} {H H' : Hp} {xs : List V} (e : Kp b H H') (n : a ≠ b) (h : SqL K H a xs) : SqL K H' a xs := by
  rcases h with (h | ⟨o, h⟩) | h
  · exact .inl (.inl (e _ _ n h))
  · exact .inl (.inr ⟨o, e _ _ n h⟩)
  · exact .inr h
end Bx
namespace Bx
open PySem PySem.Spec PyProof.Rows L2
theorem cut_from (xs : List V) (n : Nat) : cutV xs (some (n : Int)) none = xs.drop n := by
  unfold cutV
  rw [HT.sIx_none, HT.sIx_nat]
  by_cases h : n ≤ xs.length
  · rw [Nat.min_eq_left h]
    exact List.take_of_length_le (by rw [List.length_drop]; exact Nat.le_refl _)
  · rw [Nat.min_eq_right (by omega), Nat.sub_self, List.take_zero, List.drop_eq_nil_of_le (by omega)]
theorem atI_nat' {α : Type} {xs : List α} {j : Nat} (h : j < xs.length) : atI xs (j : Int) = some xs[j] := atI_nat (List.getElem?_eq_getElem h)
end Bx

-- needs lists
/-! data of any depth in a heap that grows -/
namespace Bx
open PySem PySem.Spec PyProof.Rows L2
mutual
theorem Dp.same {K : PySem.W.Frag} {H H' : Hp} (e : Same H H') : ∀ {d : PyData} {v : V}, Dp K H v d → Dp K H' v d
  | .none, _, h => by cases h; exact .non
  | .bool _, _, h => by cases h; exact .bl _
  | .int _, _, h => by cases h; exact .int _
  | .str _, _, h => by cases h; exact .str _
  | .list _, _, h => by
    cases h with
    | lst hs ha => exact .lst (e.seq hs) (Dp.sameAll e ha)
  | .tuple _, _, h => by
    cases h with
    | tup hs ha => exact .tup (seqT e hs) (Dp.sameAll e ha)
  | .dict _, _, h => by cases h
theorem Dp.sameAll {K : PySem.W.Frag} {H H' : Hp} (e : Same H H') : ∀ {ds : List PyData} {vs : List V}, DpAll K H vs ds → DpAll K H' vs ds
  | [], _, h => by cases h; exact .nil
  | _ :: _, _, h => by
    cases h with
    | cons h1 h2 => exact .cons (Dp.same e h1) (Dp.sameAll e h2)
end
theorem DpAll.length {K : PySem.W.Frag} {H : Hp} : ∀ {ds : List PyData} {vs : List V}, DpAll K H vs ds → vs.length = ds.length
  | [], _, h => by cases h; rfl
  | _ :: _, _, h => by
    cases h with
    | cons h1 h2 => exact congrArg Nat.succ (DpAll.length h2)
theorem DpAll.get {K : PySem.W.Frag} {H : Hp} : ∀ {ds : List PyData} {vs : List V} {i : Nat} {v : V}, DpAll K H vs ds → vs[i]? = some v → ∃ d, ds[i]? = some d ∧ Dp K H v d
  | [], _, _, _, h, e => by cases h; cases e
  | _ :: _, _, 0, _, h, e => by
    cases h with
    | cons h1 h2 =>
      cases e
      exact ⟨_, rfl, h1⟩
  | _ :: _, _, i + 1, _, h, e => by
    cases h with
    | cons h1 h2 =>
      obtain ⟨d, q1, q2⟩ := DpAll.get (i := i) h2 (by simpa using e)
      exact ⟨d, by simpa using q1, q2⟩
theorem DpAll.append {K : PySem.W.Frag} {H : Hp} : ∀ {ds es : List PyData} {vs us : List V}, DpAll K H vs ds → DpAll K H us es → DpAll K H (vs ++ us) (ds ++ es)
  | [], _, _, _, h, g => by cases h; exact g
  | _ :: _, _, _, _, h, g => by
    cases h with
    | cons h1 h2 => exact .cons h1 (DpAll.append h2 g)
theorem DpAll.one {K : PySem.W.Frag} {H : Hp} {d : PyData} {v : V} (h : Dp K H v d) : DpAll K H [v] [d] := .cons h .nil
/-- two things of one tuple -/
theorem Dp.pair {K : PySem.W.Frag} {H : Hp} {v : V} {d e : PyData} (h : Dp K H v (.tuple [d, e])) : ∃ a x y, v = .ref a ∧ SqT K H a [x, y] ∧ Dp K H x d ∧ Dp K H y e := by
  cases h with
  | @tup a xs _ hs ha =>
    cases ha with
    | cons h1 h2 =>
      cases h2 with
      | cons h3 h4 =>
        cases h4
        exact ⟨_, _, _, rfl, hs, h1, h3⟩
theorem Dp.lst' {K : PySem.W.Frag} {H : Hp} {v : V} {ds : List PyData} (h : Dp K H v (.list ds)) : ∃ a xs, v = .ref a ∧ SqL K H a xs ∧ DpAll K H xs ds := by
  cases h with
  | lst hs ha => exact ⟨_, _, rfl, hs, ha⟩
theorem Dp.int' {K : PySem.W.Frag} {H : Hp} {v : V} {i : Int} (h : Dp K H v (.int i)) : v = .int i := by cases h; rfl
theorem Dp.str' {K : PySem.W.Frag} {H : Hp} {v : V} {x : Str} (h : Dp K H v (.str x)) : v = .str x := by cases h; rfl
theorem Dp.bl' {K : PySem.W.Frag} {H : Hp} {v : V} {x : Bool} (h : Dp K H v (.bool x)) : v = .bl x := by cases h; rfl
theorem Dp.non' {K : PySem.W.Frag} {H : Hp} {v : V} (h : Dp K H v .none) : v = .non := by cases h; rfl
end Bx
namespace Bx
open PySem PySem.Spec PyProof.Rows L2
/-- all that is no list is as it was -/
def SameT (H H' : Hp) : Prop := ∀ a o, H a = some o → (∀ ys, o ≠ .lst ys) → H' a = some o
theorem SameT.refl (H : Hp) : SameT H H := fun _ _ h _ => h
theorem SameT.trans {H H1 H2 : Hp} (x : SameT H H1) (y : SameT H1 H2) : SameT H H2 := fun a o h n => y a o (x a o h n) n
theorem SameT.of {H H' : Hp} (e : Same H H') : SameT H H' := fun a o h _ => e a o h
theorem SameT.put {H : Hp} {a : Addr} {xs : List V} {o : HO} (h : H a = some (.lst xs)) : SameT H (L2.upd H a o) := fun b u q n => by
  have nb : b ≠ a := fun z => by
    rw [z, h] at q
    exact n _ (Option.some.inj q).symm
  rw [upd_ne nb]
  exact q
theorem SameT.new {H : Hp} {p : Addr} {o : HO} (h : H p = none) : SameT H (L2.upd H p o) := .of (same_new h)
theorem SameT.seqT {K : PySem.W.Frag} {H H' : Hp} {a : Addr} {xs : List V} (e : SameT H H') (h : SqT K H a xs) : SqT K H' a xs := by
  rcases h with (h | ⟨o, h⟩) | h
  · exact .inl (.inl (e _ _ h fun _ z => by cases z))
  · exact .inl (.inr ⟨o, e _ _ h fun _ z => by cases z⟩)
  · exact .inr h
mutual
/-- no list within -/
def noL : PyData → Bool
  | .none => true
  | .bool _ => true
  | .int _ => true
  | .str _ => true
  | .list _ => false
  | .tuple ds => noLs ds
  | .dict _ => false
def noLs : List PyData → Bool
  | [] => true
  | d :: ds => noL d && noLs ds
end
mutual
theorem Dp.sameT {K : PySem.W.Frag} {H H' : Hp} (e : SameT H H') : ∀ {d : PyData} {v : V}, noL d = true → Dp K H v d → Dp K H' v d
  | .none, _, _, h => by cases h; exact .non
  | .bool _, _, _, h => by cases h; exact .bl _
  | .int _, _, _, h => by cases h; exact .int _
  | .str _, _, _, h => by cases h; exact .str _
  | .list _, _, n, _ => by cases n
  | .tuple _, _, n, h => by
    cases h with
    | tup hs ha => exact .tup (e.seqT hs) (Dp.sameTs e (by rw [noL] at n; exact n) ha)
  | .dict _, _, _, h => by cases h
theorem Dp.sameTs {K : PySem.W.Frag} {H H' : Hp} (e : SameT H H') : ∀ {ds : List PyData} {vs : List V}, noLs ds = true → DpAll K H vs ds → DpAll K H' vs ds
  | [], _, _, h => by cases h; exact .nil
  | _ :: _, _, n, h => by
    cases h with
    | cons h1 h2 =>
      rw [noLs, Bool.and_eq_true] at n
      exact .cons (Dp.sameT e n.1 h1) (Dp.sameTs e n.2 h2)
end
theorem noLs_map {α : Type} {f : α → PyData} (h : ∀ x, noL (f x) = true) : ∀ l : List α, noLs (l.map f) = true
  | [] => rfl
  | x :: l => by rw [List.map_cons, noLs, h x, noLs_map h l]; rfl
end Bx
namespace Bx
open PySem PySem.Spec PyProof.Rows L2
mutual
/-- no list or tuple has more than 90000 items -/
def smallD : PyData → Bool
  | .list ds => decide (ds.length ≤ 90000) && smallDs ds
  | .tuple ds => decide (ds.length ≤ 90000) && smallDs ds
  | _ => true
def smallDs : List PyData → Bool
  | [] => true
  | d :: ds => smallD d && smallDs ds
end
theorem smallDs_get : ∀ {ds : List PyData} {i : Nat} {d : PyData}, smallDs ds = true → ds[i]? = some d → smallD d = true
  | [], _, _, _, h => by cases h
  | _ :: _, 0, _, s, h => by
    cases h
    rw [smallDs, Bool.and_eq_true] at s
    exact s.1
  | _ :: ds, i + 1, _, s, h => by
    rw [smallDs, Bool.and_eq_true] at s
    exact smallDs_get (ds := ds) (i := i) s.2 (by simpa using h)
theorem small_ofL {ds : List PyData} (h : smallD (.list ds) = true) : ds.length ≤ 90000 ∧ ∀ {i : Nat} {d : PyData}, ds[i]? = some d → smallD d = true := by
  rw [smallD, Bool.and_eq_true] at h
  exact ⟨of_decide_eq_true h.1, smallDs_get h.2⟩
theorem small_ofT {ds : List PyData} (h : smallD (.tuple ds) = true) : ds.length ≤ 90000 ∧ ∀ {i : Nat} {d : PyData}, ds[i]? = some d → smallD d = true := by
  rw [smallD, Bool.and_eq_true] at h
  exact ⟨of_decide_eq_true h.1, smallDs_get h.2⟩
theorem smallDs_map {α : Type} {f : α → PyData} (h : ∀ x, smallD (f x) = true) : ∀ l : List α, smallDs (l.map f) = true
  | [] => rfl
  | x :: l => by rw [List.map_cons, smallDs, h x, smallDs_map h l]; rfl
theorem smallL {ds : List PyData} (h : ds.length ≤ 90000) (h2 : smallDs ds = true) : smallD (.list ds) = true := by rw [smallD, h2, decide_eq_true h]; rfl
end Bx
namespace Bx
open PySem PySem.Spec PyProof.Rows L2
theorem depthAll_map {α : Type} {f : α → PyData} {n : Nat} (h : ∀ x, (f x).depth ≤ n) : ∀ l : List α, PyData.depthAll (l.map f) ≤ n
  | [] => Nat.zero_le _
  | x :: l => by
    rw [List.map_cons, PyData.depthAll]
    exact Nat.max_le.mpr ⟨h x, depthAll_map h l⟩
end Bx

-- needs deep
/-! pairs of numbers, their runs, their letters -/
namespace Bx
open PySem PySem.Spec PyProof.Rows L2
/-- a pair with numbers from 0 on, not both 0, below 2 ^ 4000 -/
def okP (x y : Nat) : Prop := ¬ (x = 0 ∧ y = 0) ∧ x < 2 ^ 4000 ∧ y < 2 ^ 4000
def PairAt (K : PySem.W.Frag) (H : Hp) (v : V) (x y : Nat) : Prop := ∃ a, v = .ref a ∧ SqT K H a [.int (x : Int), .int (y : Int)]
theorem PairAt.same {K : PySem.W.Frag} {H H' : Hp} {v : V} {x y : Nat} (h : PairAt K H v x y) (e : Same H H') : PairAt K H' v x y := by
  obtain ⟨a, e1, h⟩ := h
  exact ⟨a, e1, seqT e h⟩
theorem at2_0 (a b : V) : atI [a, b] 0 = some a := rfl
theorem at2_1 (a b : V) : atI [a, b] 1 = some b := rfl
/-- the runs from the top: true is X -/
def R (x y : Nat) : List (Bool × Nat) :=
  if h : 0 < x ∧ 0 < y ∧ x ≠ y then
    if x > y then (true, (x - 1) / y) :: R (x - (x - 1) / y * y) y else (false, (y - 1) / x) :: R x (y - (y - 1) / x * x)
  else []
termination_by x + y
decreasing_by
  · have h1 : 0 < (x - 1) / y := Nat.div_pos (by omega) h.2.1
    have h2 : 0 < (x - 1) / y * y := Nat.mul_pos h1 h.2.1
    omega
  · have h1 : 0 < (y - 1) / x := Nat.div_pos (by omega) h.1
    have h2 : 0 < (y - 1) / x * x := Nat.mul_pos h1 h.1
    omega
theorem R_nil {x y : Nat} (h : ¬ (0 < x ∧ 0 < y ∧ x ≠ y)) : R x y = [] := by rw [R, dif_neg h]
theorem R_x {x y : Nat} (h : 0 < y) (h2 : x > y) : R x y = (true, (x - 1) / y) :: R (x - (x - 1) / y * y) y := by
  rw [R, dif_pos ⟨by omega, h, by omega⟩, if_pos h2]
theorem R_y {x y : Nat} (h : 0 < x) (h2 : y > x) : R x y = (false, (y - 1) / x) :: R x (y - (y - 1) / x * x) := by
  rw [R, dif_pos ⟨h, by omega, by omega⟩, if_neg (by omega)]
theorem dm_le (x y : Nat) : (x - 1) / y * y ≤ x := Nat.le_trans (Nat.div_mul_le_self _ _) (Nat.sub_le _ _)
theorem dm_lt {x y : Nat} (h : 0 < y) (h2 : x > y) : x - (x - 1) / y * y < x ∧ 0 < x - (x - 1) / y * y := by
  have h1 : 0 < (x - 1) / y := Nat.div_pos (by omega) h
  have h3 : 0 < (x - 1) / y * y := Nat.mul_pos h1 h
  have h4 : (x - 1) / y * y ≤ x - 1 := Nat.div_mul_le_self _ _
  omega
theorem cast_div {x y : Nat} (h : 0 < x) : ((x : Int) - 1) / (y : Int) = (((x - 1) / y : Nat) : Int) := by
  rw [Int.natCast_ediv]
  congr 1
  omega
theorem cast_sub {x y : Nat} : (x : Int) - (((x - 1) / y : Nat) : Int) * (y : Int) = ((x - (x - 1) / y * y : Nat) : Int) := by
  rw [Int.ofNat_sub (dm_le x y), Int.natCast_mul]
def letS (b : Bool) : Str := if b then "X" else "Y"
def runD (r : Bool × Nat) : PyData := .tuple [.str (letS r.1), .int (r.2 : Int)]
def runsD (l : List (Bool × Nat)) : PyData := .list (l.map runD)
/-- the letters from the top, one by one -/
def L (x y : Nat) : List Bool :=
  if h : 0 < x ∧ 0 < y ∧ x ≠ y then
    if x > y then true :: L (x - y) y else false :: L x (y - x)
  else []
termination_by x + y
theorem L_nil {x y : Nat} (h : ¬ (0 < x ∧ 0 < y ∧ x ≠ y)) : L x y = [] := by rw [L, dif_neg h]
theorem L_x {x y : Nat} (h : 0 < y) (h2 : x > y) : L x y = true :: L (x - y) y := by rw [L, dif_pos ⟨by omega, h, by omega⟩, if_pos h2]
theorem L_y {x y : Nat} (h : 0 < x) (h2 : y > x) : L x y = false :: L x (y - x) := by rw [L, dif_pos ⟨h, by omega, by omega⟩, if_neg (by omega)]
theorem L_xs {y : Nat} (h : 0 < y) : ∀ (k x : Nat), k * y < x → L x y = List.replicate k true ++ L (x - k * y) y
  | 0, x, _ => by simp
  | k + 1, x, h2 => by
    have e : (k + 1) * y = k * y + y := Nat.succ_mul k y
    rw [e] at h2
    rw [L_x h (by omega), L_xs h k (x - y) (by omega), List.replicate_succ, List.cons_append, show x - y - k * y = x - (k + 1) * y by omega]
theorem L_ys {x : Nat} (h : 0 < x) : ∀ (k y : Nat), k * x < y → L x y = List.replicate k false ++ L x (y - k * x)
  | 0, y, _ => by simp
  | k + 1, y, h2 => by
    have e : (k + 1) * x = k * x + x := Nat.succ_mul k x
    rw [e] at h2
    rw [L_y h (by omega), L_ys h k (y - x) (by omega), List.replicate_succ, List.cons_append, show y - x - k * x = y - (k + 1) * x by omega]
def spell (l : List (Bool × Nat)) : List Bool := l.flatMap fun r => List.replicate r.2 r.1
theorem spell_R (x y : Nat) : spell (R x y) = L x y := by
  by_cases h : 0 < x ∧ 0 < y ∧ x ≠ y
  · by_cases h2 : x > y
    · have d := dm_lt h.2.1 h2
      rw [R_x h.2.1 h2]
      show List.replicate _ true ++ spell (R _ y) = _
      rw [spell_R (x - (x - 1) / y * y) y, ← L_xs h.2.1 ((x - 1) / y) x (by omega)]
    · have d := dm_lt h.1 (show y > x by omega)
      rw [R_y h.1 (by omega)]
      show List.replicate _ false ++ spell (R x _) = _
      rw [spell_R x (y - (y - 1) / x * x), ← L_ys h.1 ((y - 1) / x) y (by omega)]
  · rw [R_nil h, L_nil h]
    rfl
termination_by x + y
theorem spell_len : ∀ l : List (Bool × Nat), (spell l).length = (l.map (·.2)).sum
  | [] => rfl
  | r :: l => by
    show (List.replicate r.2 r.1 ++ spell l).length = _
    rw [List.length_append, List.length_replicate, spell_len l, List.map_cons, List.sum_cons]
theorem L_le (x y : Nat) : (L x y).length ≤ x + y := by
  by_cases h : 0 < x ∧ 0 < y ∧ x ≠ y
  · by_cases h2 : x > y
    · rw [L_x h.2.1 h2, List.length_cons]
      have := L_le (x - y) y
      omega
    · rw [L_y h.1 (by omega), List.length_cons]
      have := L_le x (y - x)
      omega
  · rw [L_nil h]
    exact Nat.zero_le _
termination_by x + y
/-- runs halve the numbers: there are few -/
theorem R_len (n : Nat) : ∀ (x y : Nat), x * y < 2 ^ n → (R x y).length ≤ n := by
  induction n with
  | zero =>
    intro x y h
    have z : ¬ (0 < x ∧ 0 < y ∧ x ≠ y) := fun ⟨h1, h2, _⟩ => by
      have := Nat.mul_pos h1 h2
      omega
    rw [R_nil z]
    exact Nat.le_refl _
  | succ n ih =>
    intro x y h
    by_cases c : 0 < x ∧ 0 < y ∧ x ≠ y
    · by_cases c2 : x > y
      · rw [R_x c.2.1 c2, List.length_cons]
        have d := dm_lt c.2.1 c2
        have e : (x - 1) / y * y + (x - 1) % y = x - 1 := by rw [Nat.mul_comm]; exact Nat.div_add_mod _ _
        have m : (x - 1) % y < y := Nat.mod_lt _ c.2.1
        have p : 0 < (x - 1) / y := Nat.div_pos (by omega) c.2.1
        have p2 : y ≤ (x - 1) / y * y := Nat.le_mul_of_pos_left _ p
        have half : 2 * (x - (x - 1) / y * y) ≤ x := by omega
        have q : 2 * ((x - (x - 1) / y * y) * y) ≤ x * y := by
          rw [← Nat.mul_assoc]
          exact Nat.mul_le_mul_right _ half
        have := ih (x - (x - 1) / y * y) y (by rw [Nat.pow_succ] at h; omega)
        omega
      · have c3 : y > x := by omega
        rw [R_y c.1 c3, List.length_cons]
        have d := dm_lt c.1 c3
        have e : (y - 1) / x * x + (y - 1) % x = y - 1 := by rw [Nat.mul_comm]; exact Nat.div_add_mod _ _
        have m : (y - 1) % x < x := Nat.mod_lt _ c.1
        have p : 0 < (y - 1) / x := Nat.div_pos (by omega) c.1
        have p2 : x ≤ (y - 1) / x * x := Nat.le_mul_of_pos_left _ p
        have half : 2 * (y - (y - 1) / x * x) ≤ y := by omega
        have q : 2 * (x * (y - (y - 1) / x * x)) ≤ x * y := by
          rw [show 2 * (x * (y - (y - 1) / x * x)) = x * (2 * (y - (y - 1) / x * x)) by rw [← Nat.mul_assoc, ← Nat.mul_assoc, Nat.mul_comm 2 x]]
          exact Nat.mul_le_mul_left _ half
        have := ih x (y - (y - 1) / x * x) (by rw [Nat.pow_succ] at h; omega)
        omega
    · rw [R_nil c]
      exact Nat.zero_le _
theorem R_len' {x y : Nat} (h : okP x y) : (R x y).length ≤ 8000 := by
  refine R_len 8000 x y ?_
  by_cases hy : 0 < y
  · have e : (2 : Nat) ^ 8000 = 2 ^ 4000 * 2 ^ 4000 := (Nat.pow_add 2 4000 4000)
    rw [e]
    exact Nat.mul_lt_mul'' h.2.1 h.2.2
  · have : y = 0 := by omega
    rw [this, Nat.mul_zero]
    exact Nat.pow_pos (by decide)
end Bx
namespace Bx
open PySem PySem.Spec PyProof.Rows L2
theorem noL_runD (r : Bool × Nat) : noL (runD r) = true := rfl
theorem PairAt.sameT {K : PySem.W.Frag} {H H' : Hp} {v : V} {x y : Nat} (h : PairAt K H v x y) (e : SameT H H') : PairAt K H' v x y := by
  obtain ⟨a, e1, h⟩ := h
  exact ⟨a, e1, e.seqT h⟩
theorem nat_abs {x n : Nat} (h : x < 2 ^ n) : ((x : Int)).natAbs < 2 ^ n := by rw [Int.natAbs_natCast]; exact h
theorem okDiv {i : Int} {y : Nat} (h0 : 0 < y) (h : y < 2 ^ 4000) : CDivW i (y : Int) := wide_div (by omega) (nat_abs h) (by decide) (by decide)
theorem okMul {x y : Nat} (h : x < 2 ^ 4000) (h2 : y < 2 ^ 4000) : CMulW (x : Int) (y : Int) := wide_mul (nat_abs h) (nat_abs h2) (by decide) (by decide) (by decide)
end Bx
namespace Bx
open PySem PySem.Spec PyProof.Rows L2
theorem sum_casts : ∀ l : List (Bool × Nat), ((l.map fun r => ((r.2 : Nat) : Int)).sum) = (((l.map (·.2)).sum : Nat) : Int)
  | [] => rfl
  | r :: l => by
    rw [List.map_cons, List.sum_cons, List.map_cons, List.sum_cons, sum_casts l, Int.natCast_add]
theorem sumR (x y : Nat) : ((R x y).map fun r => ((r.2 : Nat) : Int)).sum = (((L x y).length : Nat) : Int) := by rw [sum_casts, ← spell_len, spell_R]
theorem okP_small {x y : Nat} (h : ¬ (x = 0 ∧ y = 0)) (hx : x ≤ 1000000) (hy : y ≤ 1000000) : okP x y := by
  have e : 1000000 < 2 ^ 4000 := Nat.lt_of_lt_of_le (by decide : 1000000 < 2 ^ 20) (Nat.pow_le_pow_right (by decide) (by decide))
  exact ⟨h, Nat.lt_of_le_of_lt hx e, Nat.lt_of_le_of_lt hy e⟩
/-- a run of a list of runs -/
theorem run_get {K : PySem.W.Frag} {H : Hp} {us : List V} {l : List (Bool × Nat)} {i : Nat} {u : V} (g : DpAll K H us (l.map runD)) (hu : us[i]? = some u) :
    ∃ (c : Bool) (n : Nat) (p : Addr), l[i]? = some (c, n) ∧ u = .ref p ∧ SqT K H p [.str (letS c), .int (n : Int)] := by
  obtain ⟨d, hd, du⟩ := DpAll.get g hu
  obtain ⟨⟨c, n⟩, hr, rfl⟩ : ∃ r, l[i]? = some r ∧ runD r = d := by
    rw [List.getElem?_map] at hd
    cases q : l[i]? with
    | none => rw [q] at hd; cases hd
    | some r => rw [q] at hd; exact ⟨r, rfl, Option.some.inj hd⟩
  obtain ⟨p, a1, a2, rfl, hp, e1, e3⟩ := Dp.pair du
  cases Dp.str' e1
  cases Dp.int' e3
  exact ⟨c, n, p, hr, rfl, hp⟩
end Bx
namespace Bx
open PySem PySem.Spec PyProof.Rows L2
theorem runsD_depth (l : List (Bool × Nat)) : (runsD l).depth ≤ 2 := by
  show PyData.depthAll (l.map runD) + 1 ≤ 2
  have := depthAll_map (f := runD) (n := 1) (fun _ => Nat.le_refl _) l
  omega
theorem runsD_small {x y : Nat} (h : okP x y) : smallD (runsD (R x y)) = true := by
  refine smallL ?_ (smallDs_map (fun _ => rfl) _)
  have := R_len' h
  rw [List.length_map]
  omega
theorem Dp_runs {K : PySem.W.Frag} {H : Hp} {f : Addr} {us : List V} {l : List (Bool × Nat)} (h : SqL K H f us) (g : DpAll K H us (l.map runD)) : Dp K H (.ref f) (runsD l) := .lst h g
theorem letS_inj {a b : Bool} (h : a ≠ b) : decide (V.str (letS a) = V.str (letS b)) = false := by
  cases a <;> cases b
  · exact absurd rfl h
  · decide +kernel
  · decide +kernel
  · exact absurd rfl h
end Bx
namespace Bx
open PySem PySem.Spec PyProof.Rows L2
theorem beq_letS (a b : Bool) : (letS a == letS b) = (a == b) := by
  cases a <;> cases b <;> decide +kernel
theorem eqv_runD (x y : Bool × Nat) : PyData.eqv (runD x) (runD y) = decide (x = y) := by
  unfold runD
  simp only [PyData.eqv, PyData.eqvAll, beq_letS, Bool.and_true]
  rw [Bool.eq_iff_iff]
  simp [Prod.ext_iff]
  intro _
  omega
theorem canLay_runD (x : Bool × Nat) : (runD x).canLay0 = true := by
  obtain ⟨c, n⟩ := x
  cases c
  · show (PyData.canLay0 (.str "Y") && (true && true)) = true
    decide +kernel
  · show (PyData.canLay0 (.str "X") && (true && true)) = true
    decide +kernel
theorem canLay_map {α : Type} {f : α → PyData} (h : ∀ x, (f x).canLay0 = true) : ∀ l : List α, PyData.canLayAll0 (l.map f) = true
  | [] => by simp [PyData.canLayAll0]
  | x :: l => by
    rw [List.map_cons, PyData.canLayAll0, h x, canLay_map h l]
    rfl
theorem shaped_runD (x : Bool × Nat) : SeqAt.shaped (runD x) = true := by
  unfold SeqAt.shaped
  rw [canLay_runD]
  rfl
theorem shaped_runs (l : List (Bool × Nat)) : SeqAt.shaped (runsD l) = true := by
  unfold SeqAt.shaped
  have h : (runsD l).canLay0 = true := by
    show (PyData.list _).canLay0 = true
    rw [PyData.canLay0]
    exact canLay_map canLay_runD l
  have d := runsD_depth l
  rw [h, decide_eq_true (by omega)]
  rfl
theorem eqv_nil (l : List (Bool × Nat)) : PyData.eqv (runsD l) (.list []) = decide (l = []) := by
  cases l with
  | nil => rfl
  | cons a l => rfl
end Bx

-- needs pairs
namespace Bx
open PySem PySem.Spec PyProof.Rows L2
def bot (x y : Nat) : Str := if y = 0 then "flat" else if x = 0 then "steep" else "even"
end Bx

-- needs pairs
namespace Bx
open PySem PySem.Spec PyProof.Rows L2
/-- the letters as a text -/
def sgn (l : List Bool) : Str := ⟨(l.map fun b => if b then 88 else 89).toArray⟩
theorem sgn_nil : sgn [] = ("" : Str) := by decide +kernel
theorem sgn_x (l : List Bool) : sgn l ++ ("X" : Str) = sgn (l ++ [true]) := by
  have e : ("X" : Str) = ⟨#[88]⟩ := by decide +kernel
  rw [e]
  show Str.append _ _ = _
  unfold Str.append sgn
  simp
theorem sgn_y (l : List Bool) : sgn l ++ ("Y" : Str) = sgn (l ++ [false]) := by
  have e : ("Y" : Str) = ⟨#[89]⟩ := by decide +kernel
  rw [e]
  show Str.append _ _ = _
  unfold Str.append sgn
  simp
theorem sgn_len (l : List Bool) : (sgn l).length = l.length := by
  show (List.toArray _).size = _
  simp
end Bx

-- needs lists
namespace Bx
open PySem PySem.Spec PyProof.Rows L2
/-- a text n times -/
def rep (z : Str) (n : Nat) : Str := ⟨((List.replicate n z.cps.toList).flatten).toArray⟩
theorem foldl_app : ∀ (n : Nat) (a acc : Array Nat), (List.replicate n a).foldl (· ++ ·) acc = acc ++ ((List.replicate n a.toList).flatten).toArray
  | 0, _, acc => by simp
  | n + 1, a, acc => by
    rw [List.replicate_succ, List.foldl_cons, foldl_app n a, List.replicate_succ, List.flatten_cons]
    apply Array.ext'
    simp
theorem rep_mul (z : Str) (n : Int) : PySem.Txt.mul z n = rep z n.toNat := by
  unfold PySem.Txt.mul
  by_cases h : n < 1
  · rw [if_pos h, show n.toNat = 0 by omega]
    rfl
  · rw [if_neg h]
    by_cases h2 : (n == 1 || z.length == 0) = true
    · rw [if_pos h2]
      rcases Bool.or_eq_true_iff.mp h2 with e | e
      · have e1 : n = 1 := eq_of_beq e
        subst e1
        unfold rep
        simp
      · have e1 : z.length = 0 := eq_of_beq e
        have e2 : z.cps = #[] := Array.eq_empty_of_size_eq_zero e1
        have e3 : ∀ m : Nat, (List.replicate m ([] : List Nat)).flatten = [] := fun m => by induction m with
          | zero => rfl
          | succ m ih => rw [List.replicate_succ, List.flatten_cons, ih]; rfl
        unfold rep
        rw [e2]
        show z = ⟨((List.replicate n.toNat ([] : List Nat)).flatten).toArray⟩
        rw [e3]
        cases z
        simp at e2
        rw [e2]
    · rw [if_neg h2]
      unfold rep
      rw [foldl_app]
      simp
theorem op_mul_str {X : Cx} : OpR X (binaryOp .Mult) (fun x y H Q => ∃ (z : Str) (n : Int), x = .str z ∧ y = .int n ∧ 0 ≤ n ∧ n ≤ 1000000 ∧ z.length * n.toNat ≤ 1000000 ∧ Q (.str (rep z n.toNat)) H) := by
  intro pins s σ H x y v u Q I rx ry h
  obtain ⟨z, n, rfl, rfl, h0, h1, h2, q⟩ := h
  obtain ⟨t, rfl⟩ := rx
  obtain ⟨t', rfl⟩ := ry
  refine PySem.SB.mul ⟨?_, fun c _ => ?_, fun c _ => ?_⟩ fun t2 k => ⟨.str (rep z n.toNat), H, I.tok _, ⟨t2, by rw [rep_mul]⟩, q⟩
  · rw [decide_eq_false (by omega), decide_eq_false (by omega)]
    rfl
  · have e : (z.length : Int) * n ≤ 2 ^ 63 - 1 := by
      have e1 : ((z.length * n.toNat : Nat) : Int) = (z.length : Int) * n := by
        rw [Int.natCast_mul, show ((n.toNat : Nat) : Int) = n by omega]
      have e2 : ((z.length * n.toNat : Nat) : Int) ≤ 1000000 := by omega
      omega
    have := (Int.le_ediv_iff_mul_le (by omega : (0 : Int) < n)).mpr e
    omega
  · unfold Builtin.Str.tooLong
    exact decide_eq_false (by rw [sizeLine_eq]; omega)
end Bx

-- needs signs strmul
namespace Bx
open PySem PySem.Spec PyProof.Rows L2
theorem dm_rest {x y : Nat} (h : 0 < y) (h2 : x > y) : x - (x - 1) / y * y ≤ y := by
  have e : (x - 1) / y * y + (x - 1) % y = x - 1 := by rw [Nat.mul_comm]; exact Nat.div_add_mod _ _
  have m : (x - 1) % y < y := Nat.mod_lt _ h
  omega
/-- the first run's letter -/
theorem R_head {x y : Nat} {r : Bool × Nat} (h : (R x y)[0]? = some r) : 0 < x ∧ 0 < y ∧ x ≠ y ∧ (r.1 = true ↔ x > y) := by
  by_cases c : 0 < x ∧ 0 < y ∧ x ≠ y
  · refine ⟨c.1, c.2.1, c.2.2, ?_⟩
    by_cases c2 : x > y
    · rw [R_x c.2.1 c2] at h
      cases h
      exact ⟨fun _ => c2, fun _ => rfl⟩
    · rw [R_y c.1 (by omega)] at h
      cases h
      exact ⟨fun q => (by cases q), fun q => absurd q c2⟩
  · rw [R_nil c] at h
    cases h
theorem R_alt (x y : Nat) : ∀ (i : Nat) (r s : Bool × Nat), (R x y)[i]? = some r → (R x y)[i + 1]? = some s → r.1 ≠ s.1 := by
  intro i r s h1 h2
  by_cases c : 0 < x ∧ 0 < y ∧ x ≠ y
  · by_cases c2 : x > y
    · have d := dm_lt c.2.1 c2
      rw [R_x c.2.1 c2] at h1 h2
      rw [List.getElem?_cons_succ] at h2
      cases i with
      | zero =>
        cases h1
        have q := R_head h2
        have q2 := dm_rest c.2.1 c2
        intro e
        have := q.2.2.2.mp e.symm
        omega
      | succ i =>
        rw [List.getElem?_cons_succ] at h1
        exact R_alt _ y i r s h1 h2
    · have c3 : y > x := by omega
      have d := dm_lt c.1 c3
      rw [R_y c.1 c3] at h1 h2
      rw [List.getElem?_cons_succ] at h2
      cases i with
      | zero =>
        cases h1
        have q := R_head h2
        have q2 := dm_rest c.1 c3
        intro e
        have e2 : s.1 = false := e.symm
        have : ¬ (x > y - (y - 1) / x * x) := fun z => by
          have := q.2.2.2.mpr z
          rw [e2] at this
          cases this
        omega
      | succ i =>
        rw [List.getElem?_cons_succ] at h1
        exact R_alt x _ i r s h1 h2
  · rw [R_nil c] at h1
    cases h1
termination_by x + y
/-- texts one behind another -/
theorem glue_fold : ∀ (ps : List Str) (acc : Array Nat), ps.foldl (fun acc p => acc ++ (#[] : Array Nat) ++ p.cps) acc = acc ++ ((ps.map fun p => p.cps.toList).flatten).toArray
  | [], acc => by simp
  | p :: ps, acc => by
    rw [List.foldl_cons, glue_fold ps, List.map_cons, List.flatten_cons]
    apply Array.ext'
    simp
theorem join_empty (ps : List Str) : PySem.Txt.join (⟨#[]⟩ : Str) ps = ⟨((ps.map fun p => p.cps.toList).flatten).toArray⟩ := by
  show (⟨(ps.drop 1).foldl (fun acc p => acc ++ (#[] : Array Nat) ++ p.cps) (ps.headD Str.empty).cps⟩ : Str) = _
  rw [glue_fold]
  cases ps with
  | nil => rfl
  | cons p ps =>
    congr 1
    apply Array.ext'
    simp
theorem rep_let (c : Bool) (n : Nat) : (rep (letS c) n).cps.toList = (List.replicate n c).map fun b => if b then 88 else 89 := by
  have e : (letS c).cps.toList = [if c then 88 else 89] := by
    cases c
    · decide +kernel
    · decide +kernel
  unfold rep
  rw [e]
  show (List.replicate n [if c = true then 88 else 89]).flatten = _
  induction n with
  | zero => rfl
  | succ n ih => rw [List.replicate_succ, List.flatten_cons, ih, List.replicate_succ]; rfl
theorem join_runs (l : List (Bool × Nat)) : PySem.Txt.join (⟨#[]⟩ : Str) (l.map fun r => rep (letS r.1) r.2) = sgn (spell l) := by
  rw [join_empty]
  show _ = (⟨_⟩ : Str)
  congr 2
  induction l with
  | nil => rfl
  | cons r l ih =>
    rw [List.map_cons, List.map_cons, List.flatten_cons, ih, rep_let]
    show _ = (List.replicate r.2 r.1 ++ spell l).map _
    rw [List.map_append]
theorem rep_len (c : Bool) (n : Nat) : (rep (letS c) n).length = n := by
  have e := congrArg List.length (rep_let c n)
  rw [List.length_map, List.length_replicate] at e
  exact e
theorem rep_lens (l : List (Bool × Nat)) : ((l.map fun r => rep (letS r.1) r.2).map (·.length)).sum = (spell l).length := by
  rw [spell_len, List.map_map]
  congr 1
  apply List.map_congr_left
  intro r _
  exact rep_len r.1 r.2
theorem lets_len (c : Bool) : (letS c).length = 1 := by
  cases c
  · decide +kernel
  · decide +kernel
/-- one run's count is among the letters -/
theorem run_le {l : List (Bool × Nat)} {i : Nat} {r : Bool × Nat} (h : l[i]? = some r) : r.2 ≤ (spell l).length := by
  rw [spell_len]
  have := List.mem_of_getElem? h
  induction l generalizing i with
  | nil => cases this
  | cons a l ih =>
    rw [List.map_cons, List.sum_cons]
    rcases List.mem_cons.mp this with e | e
    · rw [e]; omega
    · obtain ⟨j, hj⟩ := List.getElem?_of_mem e
      have := ih hj e
      omega
end Bx

-- needs spell bottoms
namespace Bx
open PySem PySem.Spec PyProof.Rows L2
/-- the pair at the bottom of a path -/
def fin (x y : Nat) : Nat × Nat :=
  if h : 0 < x ∧ 0 < y ∧ x ≠ y then
    if x > y then fin (x - (x - 1) / y * y) y else fin x (y - (y - 1) / x * x)
  else (x, y)
termination_by x + y
decreasing_by
  · have := (dm_lt h.2.1 (by assumption)).1
    omega
  · have := (dm_lt h.1 (show y > x by omega)).1
    omega
theorem fin_nil {x y : Nat} (h : ¬ (0 < x ∧ 0 < y ∧ x ≠ y)) : fin x y = (x, y) := by rw [fin, dif_neg h]
theorem fin_x {x y : Nat} (h : 0 < y) (h2 : x > y) : fin x y = fin (x - (x - 1) / y * y) y := by rw [fin, dif_pos ⟨by omega, h, by omega⟩, if_pos h2]
theorem fin_y {x y : Nat} (h : 0 < x) (h2 : y > x) : fin x y = fin x (y - (y - 1) / x * x) := by rw [fin, dif_pos ⟨h, by omega, by omega⟩, if_neg (by omega)]
/-- letters put on, from the bottom up -/
def put1 (p : Nat × Nat) (r : Bool × Nat) : Nat × Nat := if r.1 then (p.1 + r.2 * p.2, p.2) else (p.1, p.2 + r.2 * p.1)
def grow (p : Nat × Nat) (l : List (Bool × Nat)) : Nat × Nat := l.foldl put1 p
theorem grow_app (p : Nat × Nat) (l r : List (Bool × Nat)) : grow p (l ++ r) = grow (grow p l) r := List.foldl_append
theorem grow_R (x y : Nat) : grow (fin x y) (R x y).reverse = (x, y) := by
  by_cases c : 0 < x ∧ 0 < y ∧ x ≠ y
  · by_cases c2 : x > y
    · have d := dm_lt c.2.1 c2
      rw [R_x c.2.1 c2, fin_x c.2.1 c2, List.reverse_cons, grow_app, grow_R _ y]
      show (x - (x - 1) / y * y + (x - 1) / y * y, y) = (x, y)
      rw [Nat.sub_add_cancel (dm_le x y)]
    · have c3 : y > x := by omega
      have d := dm_lt c.1 c3
      rw [R_y c.1 c3, fin_y c.1 c3, List.reverse_cons, grow_app, grow_R x _]
      show (x, y - (y - 1) / x * x + (y - 1) / x * x) = (x, y)
      rw [Nat.sub_add_cancel (dm_le y x)]
  · rw [R_nil c, fin_nil c]
    rfl
termination_by x + y
theorem gcd_dm (x y k : Nat) (h : k * y ≤ x) : Nat.gcd (x - k * y) y = Nat.gcd x y := by
  have e : x = (x - k * y) + k * y := by omega
  conv => rhs; rw [e, Nat.add_comm, Nat.mul_comm, Nat.gcd_comm, Nat.gcd_mul_left_add_right]
  rw [Nat.gcd_comm, Nat.mul_comm k y]
/-- the bottom by the kind and the divisor -/
def base (k : Str) (g : Nat) : Nat × Nat := if k = "flat" then (g, 0) else if k = "steep" then (0, g) else (g, g)
theorem fin_pos {x y : Nat} (hx : 0 < x) (hy : 0 < y) : fin x y = (Nat.gcd x y, Nat.gcd x y) := by
  by_cases c : x ≠ y
  · by_cases c2 : x > y
    · have d := dm_lt hy c2
      rw [fin_x hy c2, fin_pos d.2 hy, gcd_dm x y _ (dm_le x y)]
    · have c3 : y > x := by omega
      have d := dm_lt hx c3
      rw [fin_y hx c3, fin_pos hx d.2, Nat.gcd_comm, gcd_dm y x _ (dm_le y x), Nat.gcd_comm]
  · have e : x = y := by omega
    subst e
    rw [fin_nil (by omega), Nat.gcd_self]
termination_by x + y
theorem fin_base {x y : Nat} (h : ¬ (x = 0 ∧ y = 0)) : fin x y = base (bot x y) (Nat.gcd x y) := by
  unfold bot base
  by_cases hy : y = 0
  · subst hy
    rw [if_pos rfl, if_pos rfl, fin_nil (by omega), Nat.gcd_zero_right]
  · rw [if_neg hy]
    by_cases hx : x = 0
    · subst hx
      rw [if_pos rfl, if_neg (by decide +kernel), if_pos rfl, fin_nil (by omega), Nat.gcd_zero_left]
    · rw [if_neg hx, if_neg (by decide +kernel), if_neg (by decide +kernel), fin_pos (by omega) (by omega)]
theorem R_flat {x y : Nat} (h : bot x y ≠ "even") : R x y = [] := by
  refine R_nil fun c => h ?_
  unfold bot
  rw [if_neg (by omega), if_neg (by omega)]
theorem R_pos' (x y : Nat) : ∀ r ∈ R x y, 0 < r.2 := by
  by_cases c : 0 < x ∧ 0 < y ∧ x ≠ y
  · by_cases c2 : x > y
    · have d := dm_lt c.2.1 c2
      rw [R_x c.2.1 c2]
      intro r hr
      rcases List.mem_cons.mp hr with e | e
      · rw [e]
        exact Nat.div_pos (by omega) c.2.1
      · exact R_pos' _ y r e
    · have c3 : y > x := by omega
      have d := dm_lt c.1 c3
      rw [R_y c.1 c3]
      intro r hr
      rcases List.mem_cons.mp hr with e | e
      · rw [e]
        exact Nat.div_pos (by omega) c.1
      · exact R_pos' x _ r e
  · rw [R_nil c]
    intro r hr
    cases hr
termination_by x + y
/-! ### moves -/
/-- add or take, x or y, how often -/
abbrev Mv := Bool × Bool × Nat
def mvD (m : Mv) : PyData := .tuple [.str (if m.1 then "add" else "take"), .str (if m.2.1 then "x" else "y"), .int (m.2.2 : Int)]
/-- one move, without a negative number, below a bound -/
def go1 (B : Nat) (p : Nat × Nat) (m : Mv) : Option (Nat × Nat) :=
  let q : Option (Nat × Nat) := match m with
    | (true, true, n) => some (p.1 + n * p.2, p.2)
    | (true, false, n) => some (p.1, p.2 + n * p.1)
    | (false, true, n) => if n * p.2 ≤ p.1 then some (p.1 - n * p.2, p.2) else none
    | (false, false, n) => if n * p.1 ≤ p.2 then some (p.1, p.2 - n * p.1) else none
  q.bind fun q => if 0 < m.2.2 ∧ q.1 < B ∧ q.2 < B then some q else none
def leads (B : Nat) : Nat × Nat → List Mv → Option (Nat × Nat)
  | p, [] => some p
  | p, m :: ms => (go1 B p m).bind fun q => leads B q ms
theorem leads_app (B : Nat) : ∀ (p : Nat × Nat) (l r : List Mv), leads B p (l ++ r) = (leads B p l).bind fun q => leads B q r
  | p, [], r => rfl
  | p, m :: l, r => by
    show (go1 B p m).bind (fun q => leads B q (l ++ r)) = ((go1 B p m).bind fun q => leads B q l).bind _
    cases go1 B p m with
    | none => rfl
    | some q => exact leads_app B q l r
def takes (l : List (Bool × Nat)) : List Mv := l.map fun r => (false, r.1, r.2)
def adds (l : List (Bool × Nat)) : List Mv := l.map fun r => (true, r.1, r.2)
theorem put1_le (p : Nat × Nat) (r : Bool × Nat) : p.1 ≤ (put1 p r).1 ∧ p.2 ≤ (put1 p r).2 := by
  unfold put1
  cases r.1
  · exact ⟨Nat.le_refl _, Nat.le_add_right _ _⟩
  · exact ⟨Nat.le_add_right _ _, Nat.le_refl _⟩
theorem grow_le : ∀ (l : List (Bool × Nat)) (p : Nat × Nat), p.1 ≤ (grow p l).1 ∧ p.2 ≤ (grow p l).2
  | [], p => ⟨Nat.le_refl _, Nat.le_refl _⟩
  | r :: l, p => by
    have h1 := put1_le p r
    have h2 := grow_le l (put1 p r)
    exact ⟨Nat.le_trans h1.1 h2.1, Nat.le_trans h1.2 h2.2⟩
theorem leads_adds (B : Nat) : ∀ (l : List (Bool × Nat)) (p : Nat × Nat), (∀ r ∈ l, 0 < r.2) → (grow p l).1 < B → (grow p l).2 < B → leads B p (adds l) = some (grow p l)
  | [], p, _, _, _ => rfl
  | (c, n) :: l, p, h, h1, h2 => by
    have hl := grow_le l (put1 p (c, n))
    have e : go1 B p (true, c, n) = some (put1 p (c, n)) := by
      have hn := h (c, n) List.mem_cons_self
      have b1 : (put1 p (c, n)).1 < B := Nat.lt_of_le_of_lt hl.1 h1
      have b2 : (put1 p (c, n)).2 < B := Nat.lt_of_le_of_lt hl.2 h2
      cases c
      · show (if 0 < n ∧ p.1 < B ∧ p.2 + n * p.1 < B then some (p.1, p.2 + n * p.1) else none) = _
        rw [if_pos ⟨hn, b1, b2⟩]
        rfl
      · show (if 0 < n ∧ p.1 + n * p.2 < B ∧ p.2 < B then some (p.1 + n * p.2, p.2) else none) = _
        rw [if_pos ⟨hn, b1, b2⟩]
        rfl
    show (go1 B p (true, c, n)).bind _ = _
    rw [e, Option.bind_some]
    exact leads_adds B l _ (fun r hr => h r (List.mem_cons_of_mem _ hr)) h1 h2
/-- what was put on is taken off from the top -/
theorem leads_takes (B : Nat) (p : Nat × Nat) : ∀ (l : List (Bool × Nat)), (∀ r ∈ l, 0 < r.2) → (grow p l.reverse).1 < B → (grow p l.reverse).2 < B → leads B (grow p l.reverse) (takes l) = some p
  | [], _, _, _ => rfl
  | (c, n) :: l, h, h1, h2 => by
    rw [List.reverse_cons, grow_app] at h1 h2 ⊢
    have hl := put1_le (grow p l.reverse) (c, n)
    have b1 : (grow p l.reverse).1 < B := Nat.lt_of_le_of_lt hl.1 h1
    have b2 : (grow p l.reverse).2 < B := Nat.lt_of_le_of_lt hl.2 h2
    have hn := h (c, n) List.mem_cons_self
    have e : go1 B (grow (grow p l.reverse) [(c, n)]) (false, c, n) = some (grow p l.reverse) := by
      generalize grow p l.reverse = q at b1 b2
      cases c
      · show (if n * q.1 ≤ q.2 + n * q.1 then some (q.1, q.2 + n * q.1 - n * q.1) else none).bind _ = _
        rw [if_pos (Nat.le_add_left _ _), Nat.add_sub_cancel, Option.bind_some, if_pos ⟨hn, b1, b2⟩]
      · show (if n * q.2 ≤ q.1 + n * q.2 then some (q.1 + n * q.2 - n * q.2, q.2) else none).bind _ = _
        rw [if_pos (Nat.le_add_left _ _), Nat.add_sub_cancel, Option.bind_some, if_pos ⟨hn, b1, b2⟩]
    show (go1 B _ (false, c, n)).bind _ = _
    rw [e, Option.bind_some]
    exact leads_takes B p l (fun r hr => h r (List.mem_cons_of_mem _ hr)) b1 b2
/-! ### without the common beginning -/
def restOf : List (Bool × Nat) → List (Bool × Nat) → List (Bool × Nat) × List (Bool × Nat)
  | a :: l, b :: r =>
    if a = b then restOf l r
    else if a.1 ≠ b.1 then (a :: l, b :: r)
    else ((if a.2 > min a.2 b.2 then [(a.1, a.2 - min a.2 b.2)] else []) ++ l, (if b.2 > min a.2 b.2 then [(a.1, b.2 - min a.2 b.2)] else []) ++ r)
  | l, r => (l, r)
theorem put1_put1 (p : Nat × Nat) (c : Bool) (n m : Nat) : put1 (put1 p (c, n)) (c, m) = put1 p (c, n + m) := by
  cases c
  · show (p.1, p.2 + n * p.1 + m * p.1) = (p.1, p.2 + (n + m) * p.1)
    rw [Nat.add_mul, Nat.add_assoc]
  · show (p.1 + n * p.2 + m * p.2, p.2) = (p.1 + (n + m) * p.2, p.2)
    rw [Nat.add_mul, Nat.add_assoc]
theorem restOf_ok : ∀ (l r : List (Bool × Nat)), ∃ c : List (Bool × Nat), (∀ p, grow p l = grow (grow p c) (restOf l r).1) ∧ (∀ p, grow p r = grow (grow p c) (restOf l r).2)
  | [], r => ⟨[], by intro p; unfold restOf; rfl, by intro p; unfold restOf; rfl⟩
  | a :: l, [] => ⟨[], by intro p; unfold restOf; rfl, by intro p; unfold restOf; rfl⟩
  | a :: l, b :: r => by
    by_cases e : a = b
    · subst e
      obtain ⟨c, h1, h2⟩ := restOf_ok l r
      refine ⟨a :: c, fun p => ?_, fun p => ?_⟩
      · rw [restOf, if_pos rfl]
        exact h1 (put1 p a)
      · rw [restOf, if_pos rfl]
        exact h2 (put1 p a)
    · by_cases e2 : a.1 ≠ b.1
      · refine ⟨[], fun p => ?_, fun p => ?_⟩
        · rw [restOf, if_neg e, if_pos e2]; rfl
        · rw [restOf, if_neg e, if_pos e2]; rfl
      · obtain ⟨c, n⟩ := a
        obtain ⟨c', m⟩ := b
        have ec : c = c' := by
          cases Decidable.em (c = c') with
          | inl h => exact h
          | inr h => exact absurd h e2
        subst ec
        have part : ∀ (k s : Nat) (t : List (Bool × Nat)) (p : Nat × Nat), s ≤ k → grow p ((c, k) :: t) = grow (grow p [(c, s)]) ((if k > s then [(c, k - s)] else []) ++ t) := fun k s t p hk => by
          by_cases z : k > s
          · rw [if_pos z]
            show grow (put1 p (c, k)) t = grow (put1 (put1 p (c, s)) (c, k - s)) t
            rw [put1_put1, Nat.add_sub_cancel' hk]
          · rw [if_neg z, show s = k by omega]
            rfl
        refine ⟨[(c, min n m)], fun p => ?_, fun p => ?_⟩
        · rw [restOf, if_neg e, if_neg (fun z => z rfl)]
          exact part n (min n m) l p (Nat.min_le_left _ _)
        · rw [restOf, if_neg e, if_neg (fun z => z rfl)]
          exact part m (min n m) r p (Nat.min_le_right _ _)
def cnt (l : List (Bool × Nat)) : Nat := (l.map (·.2)).sum
theorem cnt_app (l r : List (Bool × Nat)) : cnt (l ++ r) = cnt l + cnt r := by
  unfold cnt
  rw [List.map_append, List.sum_append]
/-- what is left: positive counts, not more of them, no more runs -/
theorem restOf_pos : ∀ (l r : List (Bool × Nat)), (∀ x ∈ l, 0 < x.2) → (∀ x ∈ r, 0 < x.2) →
    (∀ x ∈ (restOf l r).1, 0 < x.2) ∧ (∀ x ∈ (restOf l r).2, 0 < x.2) ∧ cnt (restOf l r).1 ≤ cnt l ∧ cnt (restOf l r).2 ≤ cnt r ∧ (restOf l r).1.length ≤ l.length ∧ (restOf l r).2.length ≤ r.length
  | [], r, h1, h2 => by unfold restOf; exact ⟨h1, h2, Nat.le_refl _, Nat.le_refl _, Nat.le_refl _, Nat.le_refl _⟩
  | a :: l, [], h1, h2 => by unfold restOf; exact ⟨h1, h2, Nat.le_refl _, Nat.le_refl _, Nat.le_refl _, Nat.le_refl _⟩
  | a :: l, b :: r, h1, h2 => by
    by_cases e : a = b
    · rw [restOf, if_pos e]
      obtain ⟨q1, q2, q3, q4, q5, q6⟩ := restOf_pos l r (fun x hx => h1 x (List.mem_cons_of_mem _ hx)) (fun x hx => h2 x (List.mem_cons_of_mem _ hx))
      refine ⟨q1, q2, ?_, ?_, by rw [List.length_cons]; omega, by rw [List.length_cons]; omega⟩
      · show _ ≤ ((a :: l).map (·.2)).sum
        rw [List.map_cons, List.sum_cons]
        exact Nat.le_trans q3 (Nat.le_add_left _ _)
      · show _ ≤ ((b :: r).map (·.2)).sum
        rw [List.map_cons, List.sum_cons]
        exact Nat.le_trans q4 (Nat.le_add_left _ _)
    · by_cases e2 : a.1 ≠ b.1
      · rw [restOf, if_neg e, if_pos e2]
        exact ⟨h1, h2, Nat.le_refl _, Nat.le_refl _, Nat.le_refl _, Nat.le_refl _⟩
      · rw [restOf, if_neg e, if_neg e2]
        have part : ∀ (k s : Nat) (c d : Bool) (t : List (Bool × Nat)), (∀ x ∈ t, 0 < x.2) → (∀ x ∈ (if k > s then [(c, k - s)] else []) ++ t, 0 < x.2) ∧ cnt ((if k > s then [(c, k - s)] else []) ++ t) ≤ cnt ((d, k) :: t) ∧ ((if k > s then [(c, k - s)] else []) ++ t).length ≤ ((d, k) :: t).length := fun k s c d t ht => by
          have ec : cnt ((d, k) :: t) = k + cnt t := by
            unfold cnt
            rw [List.map_cons, List.sum_cons]
          by_cases z : k > s
          · rw [if_pos z]
            refine ⟨fun x hx => ?_, ?_, ?_⟩
            · rcases List.mem_append.mp hx with q | q
              · rw [List.mem_singleton.mp q]
                show 0 < k - s
                omega
              · exact ht x q
            · rw [cnt_app, ec]
              show (k - s + 0) + _ ≤ _
              omega
            · simp
          · rw [if_neg z]
            refine ⟨fun x hx => ht x hx, ?_, ?_⟩
            · rw [ec]
              exact Nat.le_add_left _ _
            · simp
        have p1 := part a.2 (min a.2 b.2) a.1 a.1 l fun x hx => h1 x (List.mem_cons_of_mem _ hx)
        have p2 := part b.2 (min a.2 b.2) a.1 b.1 r fun x hx => h2 x (List.mem_cons_of_mem _ hx)
        exact ⟨p1.1, p2.1, p1.2.1, p2.2.1, p1.2.2, p2.2.2⟩
/-! ### neighbours put together -/
def keyOf (m : Mv) : Bool × Bool := (m.1, m.2.1)
def mstep (f : List Mv) (m : Mv) : List Mv := match f.getLast? with
  | some l => if keyOf l = keyOf m then f.dropLast ++ [(m.1, m.2.1, m.2.2 + l.2.2)] else f ++ [m]
  | none => f ++ [m]
def merge (ms : List Mv) : List Mv := ms.foldl mstep []
theorem last_split {f : List Mv} {l : Mv} (h : f.getLast? = some l) : f = f.dropLast ++ [l] := by
  have hne : f ≠ [] := fun e => by rw [e] at h; cases h
  rw [List.getLast?_eq_some_getLast hne] at h
  have e := Option.some.inj h
  rw [← e]
  exact (List.dropLast_concat_getLast hne).symm
theorem go_two {B : Nat} {p q r : Nat × Nat} {w a : Bool} {n m : Nat} (h1 : go1 B p (w, a, n) = some q) (h2 : go1 B q (w, a, m) = some r) : go1 B p (w, a, m + n) = some r := by
  have un : ∀ {p q : Nat × Nat} {m : Mv}, go1 B p m = some q → 0 < m.2.2 ∧ q.1 < B ∧ q.2 < B ∧ (match m with
    | (true, true, n) => q = (p.1 + n * p.2, p.2)
    | (true, false, n) => q = (p.1, p.2 + n * p.1)
    | (false, true, n) => n * p.2 ≤ p.1 ∧ q = (p.1 - n * p.2, p.2)
    | (false, false, n) => n * p.1 ≤ p.2 ∧ q = (p.1, p.2 - n * p.1)) := fun {p q m} h => by
    unfold go1 at h
    obtain ⟨z, hz, h⟩ := Option.bind_eq_some_iff.mp h
    by_cases c : 0 < m.2.2 ∧ z.1 < B ∧ z.2 < B
    · rw [if_pos c] at h
      cases h
      refine ⟨c.1, c.2.1, c.2.2, ?_⟩
      match m, hz with
      | (true, true, n), hz => exact (Option.some.inj hz).symm
      | (true, false, n), hz => exact (Option.some.inj hz).symm
      | (false, true, n), hz =>
        by_cases g : n * p.2 ≤ p.1
        · simp only [if_pos g] at hz
          exact ⟨g, (Option.some.inj hz).symm⟩
        · simp only [if_neg g] at hz
          cases hz
      | (false, false, n), hz =>
        by_cases g : n * p.1 ≤ p.2
        · simp only [if_pos g] at hz
          exact ⟨g, (Option.some.inj hz).symm⟩
        · simp only [if_neg g] at hz
          cases hz
    · rw [if_neg c] at h
      cases h
  have a1 := un h1
  have a2 := un h2
  have e : ∀ k : Nat, (m + n) * k = n * k + m * k := fun k => by rw [Nat.add_mul, Nat.add_comm]
  obtain ⟨b1, b2, b3, b4⟩ := a2
  have hpos : 0 < m + n := by have := a1.1; show 0 < m + n; have : 0 < n := this; omega
  match w, a with
  | true, true =>
    have q1 := a1.2.2.2
    have q2 := b4
    simp only at q1 q2
    subst q1
    have ee : (p.1 + (m + n) * p.2, p.2) = r := by rw [q2, e, Nat.add_assoc]
    show (if 0 < m + n ∧ (p.1 + (m + n) * p.2, p.2).1 < B ∧ (p.1 + (m + n) * p.2, p.2).2 < B then some (p.1 + (m + n) * p.2, p.2) else none) = _
    rw [ee, if_pos ⟨hpos, b2, b3⟩]
  | true, false =>
    have q1 := a1.2.2.2
    have q2 := b4
    simp only at q1 q2
    subst q1
    have ee : (p.1, p.2 + (m + n) * p.1) = r := by rw [q2, e, Nat.add_assoc]
    show (if 0 < m + n ∧ (p.1, p.2 + (m + n) * p.1).1 < B ∧ (p.1, p.2 + (m + n) * p.1).2 < B then some (p.1, p.2 + (m + n) * p.1) else none) = _
    rw [ee, if_pos ⟨hpos, b2, b3⟩]
  | false, true =>
    have q1 := a1.2.2.2
    have q2 := b4
    simp only at q1 q2
    obtain ⟨g1, q1⟩ := q1
    subst q1
    obtain ⟨g2, q2⟩ := q2
    have g3 : (m + n) * p.2 ≤ p.1 := by
      rw [e]
      have : m * p.2 ≤ p.1 - n * p.2 := g2
      omega
    show (if (m + n) * p.2 ≤ p.1 then some (p.1 - (m + n) * p.2, p.2) else none).bind _ = _
    have ee : (p.1 - (m + n) * p.2, p.2) = r := by
      rw [q2, e]
      show (_, _) = (p.1 - n * p.2 - m * p.2, _)
      rw [Nat.sub_sub]
    rw [if_pos g3, Option.bind_some, ee, if_pos ⟨hpos, b2, b3⟩]
  | false, false =>
    have q1 := a1.2.2.2
    have q2 := b4
    simp only at q1 q2
    obtain ⟨g1, q1⟩ := q1
    subst q1
    obtain ⟨g2, q2⟩ := q2
    have g3 : (m + n) * p.1 ≤ p.2 := by
      rw [e]
      have : m * p.1 ≤ p.2 - n * p.1 := g2
      omega
    show (if (m + n) * p.1 ≤ p.2 then some (p.1, p.2 - (m + n) * p.1) else none).bind _ = _
    have ee : (p.1, p.2 - (m + n) * p.1) = r := by
      rw [q2, e]
      show (_, _) = (_, p.2 - n * p.1 - m * p.1)
      rw [Nat.sub_sub]
    rw [if_pos g3, Option.bind_some, ee, if_pos ⟨hpos, b2, b3⟩]
theorem mstep_leads {B : Nat} {p q : Nat × Nat} {f : List Mv} {m : Mv} (h : leads B p (f ++ [m]) = some q) : leads B p (mstep f m) = some q := by
  unfold mstep
  cases e : f.getLast? with
  | none => exact h
  | some l =>
    show leads B p (if keyOf l = keyOf m then _ else _) = _
    by_cases c : keyOf l = keyOf m
    · rw [if_pos c]
      rw [last_split e, List.append_assoc, leads_app] at h
      rw [leads_app]
      obtain ⟨z, hz, h⟩ := Option.bind_eq_some_iff.mp h
      rw [hz, Option.bind_some]
      obtain ⟨w, a, n⟩ := l
      obtain ⟨w', a', n'⟩ := m
      have c1 : w = w' := (Prod.mk.inj c).1
      have c2 : a = a' := (Prod.mk.inj c).2
      subst c1 c2
      have h : (go1 B z (w, a, n)).bind (fun q => (go1 B q (w, a, n')).bind fun q => some q) = some q := h
      obtain ⟨z2, hz2, h⟩ := Option.bind_eq_some_iff.mp h
      obtain ⟨z3, hz3, h⟩ := Option.bind_eq_some_iff.mp h
      cases h
      show (go1 B z (w, a, n' + n)).bind (fun q => some q) = some q
      rw [go_two hz2 hz3]
      rfl
    · rw [if_neg c]
      exact h
theorem fold_leads {B : Nat} {p q : Nat × Nat} : ∀ (ms f : List Mv), leads B p (f ++ ms) = some q → leads B p (ms.foldl mstep f) = some q
  | [], f, h => by rw [List.append_nil] at h; exact h
  | m :: ms, f, h => by
    rw [List.foldl_cons]
    refine fold_leads ms (mstep f m) ?_
    rw [leads_app]
    have h2 : leads B p ((f ++ [m]) ++ ms) = some q := by rw [List.append_assoc]; exact h
    rw [leads_app] at h2
    obtain ⟨z, hz, h2⟩ := Option.bind_eq_some_iff.mp h2
    rw [mstep_leads hz, Option.bind_some]
    exact h2
theorem merge_leads {B : Nat} {p q : Nat × Nat} {ms : List Mv} (h : leads B p ms = some q) : leads B p (merge ms) = some q := fold_leads ms [] h
/-- neighbours differ -/
def Alt (f : List Mv) : Prop := ∀ (i : Nat) (a b : Mv), f[i]? = some a → f[i + 1]? = some b → keyOf a ≠ keyOf b
theorem Alt.snoc {f : List Mv} {m : Mv} (h : Alt f) (hl : ∀ l, f.getLast? = some l → keyOf l ≠ keyOf m) : Alt (f ++ [m]) := by
  intro i a b ha hb
  by_cases c : i + 1 < f.length
  · rw [List.getElem?_append_left (by omega)] at ha
    rw [List.getElem?_append_left c] at hb
    exact h i a b ha hb
  · have hlt : i + 1 < (f ++ [m]).length := (List.getElem?_eq_some_iff.mp hb).1
    rw [List.length_append, List.length_singleton] at hlt
    have e : i + 1 = f.length := by omega
    rw [e, List.getElem?_concat_length] at hb
    rw [List.getElem?_append_left (by omega)] at ha
    cases hb
    refine hl a ?_
    rw [List.getLast?_eq_getElem?, ← e, Nat.add_sub_cancel]
    exact ha
theorem Alt.key {f : List Mv} {m m' : Mv} (h : Alt (f ++ [m])) (hk : keyOf m' = keyOf m) : Alt (f ++ [m']) := by
  refine Alt.snoc (fun i a b ha hb => h i a b ?_ ?_) fun l hl => ?_
  · rw [List.getElem?_append_left (List.getElem?_eq_some_iff.mp ha).1]
    exact ha
  · rw [List.getElem?_append_left (List.getElem?_eq_some_iff.mp hb).1]
    exact hb
  · rw [hk]
    have hne : f ≠ [] := fun e => by rw [e] at hl; cases hl
    have hp : 0 < f.length := List.length_pos_iff.mpr hne
    rw [List.getLast?_eq_getElem?] at hl
    refine h (f.length - 1) l m ?_ ?_
    · rw [List.getElem?_append_left (by omega)]
      exact hl
    · rw [Nat.sub_add_cancel hp, List.getElem?_concat_length]
theorem mstep_alt {f : List Mv} {m : Mv} (h : Alt f) : Alt (mstep f m) := by
  unfold mstep
  cases e : f.getLast? with
  | none => exact Alt.snoc h fun l hl => by rw [e] at hl; cases hl
  | some l =>
    show Alt (if keyOf l = keyOf m then _ else _)
    by_cases c : keyOf l = keyOf m
    · rw [if_pos c]
      rw [last_split e] at h
      exact Alt.key h c.symm
    · rw [if_neg c]
      exact Alt.snoc h fun l' hl => by rw [e] at hl; cases hl; exact c
theorem fold_alt : ∀ (ms f : List Mv), Alt f → Alt (ms.foldl mstep f)
  | [], _, h => h
  | m :: ms, f, h => fold_alt ms (mstep f m) (mstep_alt h)
theorem merge_alt (ms : List Mv) : Alt (merge ms) := fold_alt ms [] fun i a b ha _ => by cases ha
def mcnt (f : List Mv) : Nat := (f.map (·.2.2)).sum
theorem mcnt_app (f g : List Mv) : mcnt (f ++ g) = mcnt f + mcnt g := by
  unfold mcnt
  rw [List.map_append, List.sum_append]
theorem mcnt_one (m : Mv) : mcnt [m] = m.2.2 := by
  unfold mcnt
  simp
theorem mstep_cnt (f : List Mv) (m : Mv) : mcnt (mstep f m) = mcnt f + m.2.2 := by
  unfold mstep
  cases e : f.getLast? with
  | none => show mcnt (f ++ [m]) = _; rw [mcnt_app, mcnt_one]
  | some l =>
    show mcnt (if keyOf l = keyOf m then _ else _) = _
    by_cases c : keyOf l = keyOf m
    · rw [if_pos c, mcnt_app, mcnt_one]
      conv => rhs; rw [last_split e, mcnt_app, mcnt_one]
      show _ + (m.2.2 + l.2.2) = _
      omega
    · rw [if_neg c, mcnt_app, mcnt_one]
theorem fold_cnt : ∀ (ms f : List Mv), mcnt (ms.foldl mstep f) = mcnt f + mcnt ms
  | [], f => rfl
  | m :: ms, f => by
    rw [List.foldl_cons, fold_cnt ms, mstep_cnt]
    have : mcnt (m :: ms) = m.2.2 + mcnt ms := by unfold mcnt; rw [List.map_cons, List.sum_cons]
    omega
theorem mstep_len (f : List Mv) (m : Mv) : (mstep f m).length ≤ f.length + 1 := by
  unfold mstep
  cases e : f.getLast? with
  | none => show (f ++ [m]).length ≤ _; rw [List.length_append]; exact Nat.le_refl _
  | some l =>
    show (if keyOf l = keyOf m then _ else _ : List Mv).length ≤ _
    by_cases c : keyOf l = keyOf m
    · rw [if_pos c, List.length_append, List.length_dropLast]
      show f.length - 1 + 1 ≤ f.length + 1
      omega
    · rw [if_neg c, List.length_append]
      exact Nat.le_refl _
theorem fold_len : ∀ (ms f : List Mv), (ms.foldl mstep f).length ≤ f.length + ms.length
  | [], f => Nat.le_refl _
  | m :: ms, f => by
    rw [List.foldl_cons, List.length_cons]
    have h1 := fold_len ms (mstep f m)
    have h2 := mstep_len f m
    omega
theorem cnt_le {f : List Mv} {m : Mv} (h : m ∈ f) : m.2.2 ≤ mcnt f := by
  induction f with
  | nil => cases h
  | cons a f ih =>
    have e : mcnt (a :: f) = a.2.2 + mcnt f := by unfold mcnt; rw [List.map_cons, List.sum_cons]
    rcases List.mem_cons.mp h with q | q
    · rw [q, e]; omega
    · have := ih q
      omega
/-! ### the way -/
def wayL (x y u w : Nat) : List (Bool × Nat) × List (Bool × Nat) := if bot x y = bot u w then restOf (R x y).reverse (R u w).reverse else ((R x y).reverse, (R u w).reverse)
def wayUp (s e : Str) : List Mv := if s ≠ e ∧ s ≠ "even" then [(true, decide (s ≠ "flat"), 1)] else []
def wayDown (s e : Str) : List Mv := if s ≠ e ∧ e ≠ "even" then [(false, decide (e ≠ "flat"), 1)] else []
def wayRaw (x y u w : Nat) : List Mv := takes (wayL x y u w).1.reverse ++ wayUp (bot x y) (bot u w) ++ wayDown (bot x y) (bot u w) ++ adds (wayL x y u w).2
def wayM (x y u w : Nat) : List Mv := merge (wayRaw x y u w)
end Bx
namespace Bx
open PySem PySem.Spec PyProof.Rows L2
theorem bot_cases (x y : Nat) : bot x y = "even" ∨ bot x y = "flat" ∨ bot x y = "steep" := by
  unfold bot
  by_cases hy : y = 0
  · rw [if_pos hy]; exact .inr (.inl rfl)
  · rw [if_neg hy]
    by_cases hx : x = 0
    · rw [if_pos hx]; exact .inr (.inr rfl)
    · rw [if_neg hx]; exact .inl rfl
theorem ne_ef : ("even" : Str) ≠ "flat" := by decide +kernel
theorem ne_es : ("even" : Str) ≠ "steep" := by decide +kernel
theorem ne_fs : ("flat" : Str) ≠ "steep" := by decide +kernel
theorem base_flat (g : Nat) : base "flat" g = (g, 0) := if_pos rfl
theorem base_steep (g : Nat) : base "steep" g = (0, g) := by
  unfold base
  rw [if_neg ne_fs.symm, if_pos rfl]
theorem base_even (g : Nat) : base "even" g = (g, g) := by
  unfold base
  rw [if_neg ne_ef, if_neg ne_es]
theorem go_up {B g : Nat} {s e : Str} (hs : s = "even" ∨ s = "flat" ∨ s = "steep") (hne : s ≠ e) (h0 : g < B) : leads B (base s g) (wayUp s e) = some (g, g) := by
  unfold wayUp
  rcases hs with rfl | rfl | rfl
  · rw [if_neg (fun z => z.2 rfl), base_even]; rfl
  · rw [if_pos ⟨hne, ne_ef.symm⟩, base_flat, decide_eq_false (fun z => z rfl)]
    show (go1 B (g, 0) (true, false, 1)).bind (fun q => some q) = _
    have e1 : go1 B (g, 0) (true, false, 1) = some (g, 0 + 1 * g) := by
      show (if 0 < 1 ∧ g < B ∧ 0 + 1 * g < B then some (g, 0 + 1 * g) else none) = _
      rw [if_pos ⟨by omega, h0, by omega⟩]
    rw [e1, Option.bind_some, Nat.one_mul, Nat.zero_add]
  · rw [if_pos ⟨hne, ne_es.symm⟩, base_steep, decide_eq_true ne_fs.symm]
    show (go1 B (0, g) (true, true, 1)).bind (fun q => some q) = _
    have e1 : go1 B (0, g) (true, true, 1) = some (0 + 1 * g, g) := by
      show (if 0 < 1 ∧ 0 + 1 * g < B ∧ g < B then some (0 + 1 * g, g) else none) = _
      rw [if_pos ⟨by omega, by omega, h0⟩]
    rw [e1, Option.bind_some, Nat.one_mul, Nat.zero_add]
theorem go_down {B g : Nat} {s e : Str} (he : e = "even" ∨ e = "flat" ∨ e = "steep") (hne : s ≠ e) (h0 : g < B) : leads B (g, g) (wayDown s e) = some (base e g) := by
  unfold wayDown
  rcases he with rfl | rfl | rfl
  · rw [if_neg (fun z => z.2 rfl), base_even]; rfl
  · rw [if_pos ⟨hne, ne_ef.symm⟩, base_flat, decide_eq_false (fun z => z rfl)]
    show (go1 B (g, g) (false, false, 1)).bind (fun q => some q) = _
    have e1 : go1 B (g, g) (false, false, 1) = some (g, 0) := by
      show ((if 1 * g ≤ g then some (g, g - 1 * g) else none).bind fun q => if 0 < 1 ∧ q.1 < B ∧ q.2 < B then some q else none) = _
      rw [if_pos (by omega), Option.bind_some, Nat.one_mul, Nat.sub_self, if_pos ⟨by omega, h0, by show 0 < B; omega⟩]
    rw [e1, Option.bind_some]
  · rw [if_pos ⟨hne, ne_es.symm⟩, base_steep, decide_eq_true ne_fs.symm]
    show (go1 B (g, g) (false, true, 1)).bind (fun q => some q) = _
    have e1 : go1 B (g, g) (false, true, 1) = some (0, g) := by
      show ((if 1 * g ≤ g then some (g - 1 * g, g) else none).bind fun q => if 0 < 1 ∧ q.1 < B ∧ q.2 < B then some q else none) = _
      rw [if_pos (by omega), Option.bind_some, Nat.one_mul, Nat.sub_self, if_pos ⟨by omega, by show 0 < B; omega, h0⟩]
    rw [e1, Option.bind_some]
theorem gcd_lt {x y B : Nat} (h : ¬ (x = 0 ∧ y = 0)) (hx : x < B) (hy : y < B) : Nat.gcd x y < B := by
  by_cases c : x = 0
  · subst c
    rw [Nat.gcd_zero_left]
    exact hy
  · exact Nat.lt_of_le_of_lt (Nat.gcd_le_left y (by omega)) hx
theorem wayRaw_leads {x y u w B : Nat} (h1 : ¬ (x = 0 ∧ y = 0)) (h2 : ¬ (u = 0 ∧ w = 0)) (hg : Nat.gcd x y = Nat.gcd u w) (bx : x < B) (bY : y < B) (bu : u < B) (bw : w < B) : leads B (x, y) (wayRaw x y u w) = some (u, w) := by
  have pl : ∀ r ∈ (R x y).reverse, 0 < r.2 := fun r hr => R_pos' x y r (List.mem_reverse.mp hr)
  have pr : ∀ r ∈ (R u w).reverse, 0 < r.2 := fun r hr => R_pos' u w r (List.mem_reverse.mp hr)
  unfold wayRaw wayL
  by_cases hb : bot x y = bot u w
  · rw [if_pos hb]
    have eu : wayUp (bot x y) (bot u w) = [] := if_neg fun z => z.1 hb
    have ed : wayDown (bot x y) (bot u w) = [] := if_neg fun z => z.1 hb
    rw [eu, ed, List.append_nil, List.append_nil]
    have ef : fin x y = fin u w := by rw [fin_base h1, fin_base h2, hb, hg]
    obtain ⟨c, q1, q2⟩ := restOf_ok (R x y).reverse (R u w).reverse
    obtain ⟨p1, p2, _⟩ := restOf_pos (R x y).reverse (R u w).reverse pl pr
    have e1 := q1 (fin x y)
    have e2 := q2 (fin x y)
    rw [grow_R] at e1
    rw [ef, grow_R] at e2
    rw [leads_app]
    have t := leads_takes B (grow (fin x y) c) (restOf (R x y).reverse (R u w).reverse).1.reverse (fun r hr => p1 r (List.mem_reverse.mp hr))
    rw [List.reverse_reverse, ← e1] at t
    rw [t bx bY, Option.bind_some]
    have a := leads_adds B (restOf (R x y).reverse (R u w).reverse).2 (grow (fin x y) c) p2
    rw [ef, ← e2] at a
    rw [ef]
    exact a bu bw
  · rw [if_neg hb]
    have t := leads_takes B (fin x y) (R x y) (R_pos' x y)
    rw [grow_R] at t
    have a := leads_adds B (R u w).reverse (fin u w) pr
    rw [grow_R] at a
    have gB := gcd_lt h1 bx bY
    show leads B (x, y) (takes (R x y).reverse.reverse ++ _ ++ _ ++ adds (R u w).reverse) = _
    rw [leads_app, leads_app, leads_app, List.reverse_reverse, t bx bY, Option.bind_some, fin_base h1, go_up (bot_cases x y) hb gB, Option.bind_some, go_down (bot_cases u w) hb gB, Option.bind_some, hg, ← fin_base h2]
    exact a bu bw
theorem wayM_leads {x y u w B : Nat} (h1 : ¬ (x = 0 ∧ y = 0)) (h2 : ¬ (u = 0 ∧ w = 0)) (hg : Nat.gcd x y = Nat.gcd u w) (bx : x < B) (bY : y < B) (bu : u < B) (bw : w < B) : leads B (x, y) (wayM x y u w) = some (u, w) :=
  merge_leads (wayRaw_leads h1 h2 hg bx bY bu bw)
theorem cnt_R (x y : Nat) : cnt (R x y).reverse ≤ x + y := by
  have e : cnt (R x y).reverse = cnt (R x y) := by
    unfold cnt
    rw [List.map_reverse, List.sum_reverse]
  rw [e]
  show ((R x y).map (·.2)).sum ≤ _
  rw [← spell_len, spell_R]
  exact L_le x y
theorem wayL_cnt (x y u w : Nat) : cnt (wayL x y u w).1 ≤ x + y ∧ cnt (wayL x y u w).2 ≤ u + w ∧ (wayL x y u w).1.length ≤ (R x y).length ∧ (wayL x y u w).2.length ≤ (R u w).length := by
  have pl : ∀ r ∈ (R x y).reverse, 0 < r.2 := fun r hr => R_pos' x y r (List.mem_reverse.mp hr)
  have pr : ∀ r ∈ (R u w).reverse, 0 < r.2 := fun r hr => R_pos' u w r (List.mem_reverse.mp hr)
  unfold wayL
  by_cases hb : bot x y = bot u w
  · rw [if_pos hb]
    obtain ⟨_, _, q3, q4, q5, q6⟩ := restOf_pos (R x y).reverse (R u w).reverse pl pr
    rw [List.length_reverse] at q5 q6
    exact ⟨Nat.le_trans q3 (cnt_R x y), Nat.le_trans q4 (cnt_R u w), q5, q6⟩
  · rw [if_neg hb]
    refine ⟨cnt_R x y, cnt_R u w, ?_, ?_⟩
    · rw [List.length_reverse]; exact Nat.le_refl _
    · rw [List.length_reverse]; exact Nat.le_refl _
theorem mcnt_takes (l : List (Bool × Nat)) : mcnt (takes l) = cnt l := by
  unfold mcnt takes cnt
  rw [List.map_map]
  rfl
theorem mcnt_adds (l : List (Bool × Nat)) : mcnt (adds l) = cnt l := by
  unfold mcnt adds cnt
  rw [List.map_map]
  rfl
theorem up_cnt (s e : Str) : mcnt (wayUp s e) ≤ 1 ∧ (wayUp s e).length ≤ 1 := by
  unfold wayUp
  by_cases c : s ≠ e ∧ s ≠ "even"
  · rw [if_pos c]; exact ⟨Nat.le_refl _, Nat.le_refl _⟩
  · rw [if_neg c]; exact ⟨Nat.zero_le _, Nat.zero_le _⟩
theorem down_cnt (s e : Str) : mcnt (wayDown s e) ≤ 1 ∧ (wayDown s e).length ≤ 1 := by
  unfold wayDown
  by_cases c : s ≠ e ∧ e ≠ "even"
  · rw [if_pos c]; exact ⟨Nat.le_refl _, Nat.le_refl _⟩
  · rw [if_neg c]; exact ⟨Nat.zero_le _, Nat.zero_le _⟩
theorem wayM_cnt (x y u w : Nat) : mcnt (wayM x y u w) ≤ (x + y) + (u + w) + 2 ∧ (wayM x y u w).length ≤ (R x y).length + (R u w).length + 2 := by
  obtain ⟨h1, h2, h3, h4⟩ := wayL_cnt x y u w
  have u1 := up_cnt (bot x y) (bot u w)
  have d1 := down_cnt (bot x y) (bot u w)
  have er : cnt (wayL x y u w).1.reverse = cnt (wayL x y u w).1 := by
    unfold cnt
    rw [List.map_reverse, List.sum_reverse]
  constructor
  · have e : mcnt (wayM x y u w) = mcnt (wayRaw x y u w) := by
      have := fold_cnt (wayRaw x y u w) []
      exact this.trans (Nat.zero_add _)
    rw [e]
    unfold wayRaw
    rw [mcnt_app, mcnt_app, mcnt_app, mcnt_takes, mcnt_adds, er]
    omega
  · have e := fold_len (wayRaw x y u w) []
    have e2 : (wayRaw x y u w).length = (wayL x y u w).1.length + (wayUp (bot x y) (bot u w)).length + (wayDown (bot x y) (bot u w)).length + (wayL x y u w).2.length := by
      unfold wayRaw takes adds
      rw [List.length_append, List.length_append, List.length_append, List.length_map, List.length_map, List.length_reverse]
    have e3 : (wayM x y u w).length ≤ 0 + (wayRaw x y u w).length := e
    omega
theorem restOf_self : ∀ l : List (Bool × Nat), restOf l l = ([], [])
  | [] => by unfold restOf; rfl
  | a :: l => by rw [restOf, if_pos rfl, restOf_self l]
theorem wayM_self (x y : Nat) : wayM x y x y = [] := by
  have e : wayRaw x y x y = [] := by
    unfold wayRaw wayL wayUp wayDown
    rw [if_pos rfl, restOf_self, if_neg (fun z => z.1 rfl), if_neg (fun z => z.1 rfl)]
    rfl
  unfold wayM
  rw [e]
  rfl
end Bx
namespace Bx
open PySem PySem.Spec PyProof.Rows L2
theorem noL_mvD (m : Mv) : noL (mvD m) = true := rfl
def kD (k : Bool × Bool) : PyData := .tuple [.str (if k.1 then "add" else "take"), .str (if k.2 then "x" else "y")]
theorem eqv_kD (a b : Bool × Bool) : PyData.eqv (kD a) (kD b) = decide (a = b) := by
  obtain ⟨a1, a2⟩ := a
  obtain ⟨b1, b2⟩ := b
  cases a1 <;> cases a2 <;> cases b1 <;> cases b2 <;> decide +kernel
theorem shaped_kD (a : Bool × Bool) : SeqAt.shaped (kD a) = true := by
  obtain ⟨a1, a2⟩ := a
  cases a1 <;> cases a2 <;> decide +kernel
theorem canLay_mvD (m : Mv) : (mvD m).canLay0 = true := by
  obtain ⟨w, a, n⟩ := m
  have h : ∀ (x y : Str), PyData.canLay0 (.str x) = true → PyData.canLay0 (.str y) = true → (PyData.tuple [.str x, .str y, .int (n : Int)]).canLay0 = true := fun x y h1 h2 => by
    rw [PyData.canLay0, PyData.canLayAll0, h1, PyData.canLayAll0, h2]
    rfl
  have h1 : ∀ b : Bool, PyData.canLay0 (.str (if b then "add" else "take")) = true := fun b => by cases b <;> decide +kernel
  have h2 : ∀ b : Bool, PyData.canLay0 (.str (if b then "x" else "y")) = true := fun b => by cases b <;> decide +kernel
  exact h _ _ (h1 w) (h2 a)
theorem shaped_list {α : Type} {f : α → PyData} {n : Nat} (h : ∀ x, (f x).canLay0 = true) (d : ∀ x, (f x).depth ≤ n) (hn : n ≤ 63) (l : List α) : SeqAt.shaped (.list (l.map f)) = true := by
  unfold SeqAt.shaped
  have h2 : (PyData.list (l.map f)).canLay0 = true := by
    rw [PyData.canLay0]
    exact canLay_map h l
  have h3 := depthAll_map d l
  have h4 : (PyData.list (l.map f)).depth ≤ 64 := by
    show PyData.depthAll (l.map f) + 1 ≤ 64
    omega
  rw [h2, decide_eq_true h4]
  rfl
theorem shaped_mvs (l : List Mv) : SeqAt.shaped (.list (l.map mvD)) = true := shaped_list (n := 1) canLay_mvD (fun _ => Nat.le_refl _) (by decide) l
theorem eqv_listnil (l : List PyData) : PyData.eqv (.list l) (.list []) = l.isEmpty := by
  cases l with
  | nil => rfl
  | cons a l => rfl
theorem DpAll.snoc' {K : PySem.W.Frag} {H : Hp} : ∀ {ds : List PyData} {d : PyData} {us : List V}, DpAll K H us (ds ++ [d]) → ∃ us0 u, us = us0 ++ [u] ∧ DpAll K H us0 ds ∧ Dp K H u d
  | [], d, us, h => by
    cases h with
    | cons h1 h2 =>
      cases h2
      exact ⟨[], _, rfl, .nil, h1⟩
  | _ :: ds, d, us, h => by
    cases h with
    | cons h1 h2 =>
      obtain ⟨us0, u, rfl, h3, h4⟩ := DpAll.snoc' (ds := ds) h2
      exact ⟨_ :: us0, u, rfl, .cons h1 h3, h4⟩
theorem Dp.triple {K : PySem.W.Frag} {H : Hp} {v : V} {m : Mv} (h : Dp K H v (mvD m)) : ∃ a, v = .ref a ∧ SqT K H a [.str (if m.1 then "add" else "take"), .str (if m.2.1 then "x" else "y"), .int (m.2.2 : Int)] := by
  cases h with
  | tup hs ha =>
    cases ha with
    | cons h1 h2 =>
      cases h2 with
      | cons h3 h4 =>
        cases h4 with
        | cons h5 h6 =>
          cases h6
          cases Dp.str' h1
          cases Dp.str' h3
          cases Dp.int' h5
          exact ⟨_, rfl, hs⟩
theorem Dp.move {K : PySem.W.Frag} {H : Hp} {a : Addr} {w x : Bool} {n : Int} {k : Nat} (e : n = (k : Int)) (h : SqT K H a [.str (if w then "add" else "take"), .str (if x then "x" else "y"), .int n]) : Dp K H (.ref a) (mvD (w, x, k)) := by
  subst e
  exact .tup h (.cons (.str _) (.cons (.str _) (.cons (.int _) .nil)))
theorem cut_to2 (a b c : V) : cutV [a, b, c] none (some 2) = [a, b] := rfl
theorem at3_0 (a b c : V) : atI [a, b, c] 0 = some a := rfl
theorem at3_1 (a b c : V) : atI [a, b, c] 1 = some b := rfl
theorem at3_2 (a b c : V) : atI [a, b, c] 2 = some c := rfl
theorem foldl_take {l : List Mv} {i : Nat} {m : Mv} (h : l[i]? = some m) : (l.take (i + 1)).foldl mstep [] = mstep ((l.take i).foldl mstep []) m := by
  rw [List.take_add_one, h, Option.toList_some, List.foldl_append]
  rfl
end Bx

-- needs lists
namespace Bx
open PySem PySem.Spec PyProof.Rows L2
section
variable {X : Cx}
/-- x < y for alike data (numbers, texts, tuples, lists of these) -/
def rLtD (K : PySem.W.Frag) : R2 := fun x y H Q => ∃ d e, Dp K H x d ∧ Dp K H y e ∧ PySem.W.alike d e = true ∧ d ≠ .none ∧ d.depth ≤ 60 ∧ Q (.bl (PySem.W.dataLt d e)) H
theorem op_ltD (hu : X.A.units + 64 < cLine) : OpR X (compareOp .Lt) (rLtD X.K) := by
  intro pins s σ H x y v u Q I rx ry h
  obtain ⟨d, e, hd, he, al, nn, dp, q⟩ := h
  obtain ⟨as, r1⟩ := Dp.reads I d x v hd rx
  obtain ⟨bs, r2⟩ := Dp.reads I e y u he ry
  exact PySem.W.lt_data r1 r2 al nn (by have := Nat.min_le_left d.depth e.depth; omega) ⟨.bl _, H, I, rfl, q⟩
/-- max(t), t a tuple of whole numbers -/
def rMaxT (K : PySem.W.Frag) : List V → Hp → VK → Prop := fun vs H Q => ∃ (a : Addr) (i : Int) (ns : List Int), vs = [V.ref a] ∧ SqT K H a ((i :: ns).map V.int) ∧ Q (.int (ns.foldl max i)) H
theorem Dp.ints {K : PySem.W.Frag} {H : Hp} : ∀ ns : List Int, DpAll K H (ns.map V.int) (ns.map PyData.int)
  | [] => .nil
  | n :: ns => .cons (.int n) (Dp.ints ns)
theorem depth_ints : ∀ ns : List Int, PyData.depthAll (ns.map PyData.int) = 0
  | [] => rfl
  | n :: ns => by
    rw [List.map_cons, PyData.depthAll, depth_ints ns]
    rfl
theorem cr_maxT (hc : X.calm = true) (hu : X.A.units + 64 < cLine) : CallR X (.builtin "max") (rMaxT X.K) := by
  intro pins s σ H vs us Q I r h
  obtain ⟨a, i, ns, rfl, hs, q⟩ := h
  obtain ⟨its, rv, ⟨o, ho, hcl, n, hd⟩, _⟩ := I.tuple hs
  rw [Vals.ref1 r]
  obtain ⟨as, hr⟩ := Dp.readsAll I ((i :: ns).map PyData.int) _ its (Dp.ints (i :: ns)) rv
  have hal : PySem.W.AlikeAll ((i :: ns).map PyData.int) := by
    refine ⟨fun x hx y hy => ?_, fun x hx => ?_⟩
    · obtain ⟨k, _, rfl⟩ := List.mem_map.mp hx
      obtain ⟨l, _, rfl⟩ := List.mem_map.mp hy
      rfl
    · obtain ⟨k, _, rfl⟩ := List.mem_map.mp hx
      exact fun z => by cases z
  have hdep := depth_ints (i :: ns)
  refine PySem.W.max_tuple_data (x := .int i) (xs := ns.map PyData.int) (vs := its.toArray) (I.ok.hd hc) ⟨o, ho, hcl, n, hd⟩ (by simpa using hr) (by simpa using hal) (by rw [show (PyData.int i :: ns.map PyData.int) = (i :: ns).map PyData.int from rfl, hdep]; omega) fun j v h' tk bs hj hv hk => ?_
  rw [PySem.W.maxD_ints] at hv
  cases hv with
  | int _ t => exact ⟨.int _, H, I.kept hk, ⟨_, rfl⟩, q⟩
/-- {t: v}, t a tuple of numbers and texts; the new dict stands empty while the pair is made -/
def tDispT (tk tv : TE) : TE := fun σ H Q => ∀ p, H p = none → tk σ (upd H p (.dT [])) fun x H1 => tv σ H1 fun y H2 => H2 p = some (.dT []) ∧ ∃ k b, x = .ref b ∧ H2 b = some (.tup (k.map kV)) ∧ Q (.ref p) (upd H2 p (.dT [(k, y)]))
theorem pe_dispT {k v : Expr} {tk tv : TE} {pos : Pos} (hu : X.A.units + 1 < cLine) (hk : PE X k tk) (hv : PE X v tv) : PE X (.Dict [some k] [v] pos) (tDispT tk tv) := by
  refine ⟨fun pins s σ H Q I q => ?_⟩
  have hn := I.hok.fresh (Nat.le_refl s.heap.objs.size)
  have I1 := I.laid (a := s.heap.objs.size) (o := .dT []) (h' := s.heap.push { cls := .type "dict", data := .dict #[] }) (t' := s.toks) (fun _ _ q => Heap.get?_push_of_some _ q) (Nat.le_refl _) (dt_empty s.heap I.big)
  have hshape := zip_pairTrees [some k] [v] X.env pos rfl rfl
  rw [arm_eval_Dict, hshape, dictDisplay_pairs (pairTrees [some k] [v] X.env pos) (fun z => by cases z) (show (1 : Nat) < 17 by decide)]
  refine wpAny_bind (wpAny_standAt (wpAny_bind (wpAny_subDictH (knd := tupleKind (mixKind X.prog X.w)) (Q := fun d s' => wpAny (model X.prog X.w) X.A (pure (Value.ref d)) (EP X pins σ Q) X.xe s') (Nat.lt_of_succ_lt hu) (show (1 : Nat) ≤ 15 by decide) ?_)))
  refine thn ((pps_cons hk hv pps_nil).run pins _ σ _ (fun ps H2 => match ps with | [(x, y)] => H2 s.heap.objs.size = some (.dT []) ∧ ∃ k b, x = V.ref b ∧ H2 b = some (.tup (k.map kV)) ∧ Q (.ref s.heap.objs.size) (upd H2 s.heap.objs.size (.dT [(k, y)])) | _ => False) I1 (q _ hn)) fun ws s2 ⟨ps, H2, I2, rel, qq⟩ => ?_
  match ps, qq with
  | [(x, y)], qq =>
    obtain ⟨e, k2, b, rfl, eb, q2⟩ := qq
    cases rel with
    | @cons a ab as bs hrel t =>
      cases t
      obtain ⟨u, w2⟩ := ab
      obtain ⟨r1, r2⟩ := hrel
      have eu : u = Value.ref b := r1
      subst eu
      obtain ⟨z, hd, xs0, r0, dd⟩ := dt_of I2.hok e
      cases r0
      refine ⟨[(k2, b, w2)], ⟨rfl, rfl, key_of I2.hok eb, True.intro⟩, dd, fun h' tk2 dd' hs => wpAny_pure ⟨.ref s.heap.objs.size, _, ?_, rfl, q2⟩⟩
      obtain ⟨qo, es, ep, hq, h2, h3, h4, _, h5⟩ := dd'
      refine d_write I2 (by rw [e]; exact True.intro) hs ⟨qo, hq⟩ ⟨(show 1 ≤ sizeLine by decide), hd, _, (KT.put (H := H2) (kvs := []) (xs := []) .nil k2 eb r2).keeps fun c ys ec => ?_, qo, es, ep, hq, h2, h3, h4, h5⟩
      rw [upd_ne (ne_of ec e (fun z => nomatch z))]
      exact ec
end
end Bx

-- needs lists
namespace Bx
open PySem PySem.Spec PyProof.Rows L2
/-- a text backward -/
def revS (z : Str) : Str := ⟨z.cps.toList.reverse.toArray⟩
theorem revS_len (z : Str) : (revS z).length = z.length := by
  unfold revS
  simp [Str.length]
theorem indices_rev (n : Nat) : Builtin.Str.strSliceIndices none none (-1) n = (List.range n).reverse := by
  show sliceRange ((n : Int) - 1) (-1) (-1) = _
  rw [PySem.W.krv_sliceRange, PySem.W.krv_range]
theorem all_cps (xs : Array Nat) : (List.range xs.size).filterMap (xs[·]?) = xs.toList := PySem.W.krv_all xs
def tRevS (te : TE) : TE := fun σ H Q => te σ H fun x H1 => ∃ z, x = .str z ∧ z.length ≤ sizeLine ∧ Q (.str (revS z)) H1
section
variable {X : Cx}
theorem pe_revS {e : Expr} {te : TE} {k : Nat} {p1 p2 p3 pos : Pos} (he : PE X e te) : PE X (.Subscript e (.Slice none none (some (.UnaryOp .USub (.Constant (.int 1) k p1) p2)) p3) pos) (tRevS te) := by
  refine ⟨fun pins s σ H Q I h => ?_⟩
  refine Subscript_ (thn (he.run pins s σ H _ I h) fun v s1 ⟨x, H1, I1, r1, q1⟩ => ?_)
  obtain ⟨z, ex, hz, q⟩ := q1
  subst ex
  obtain ⟨t, rfl⟩ := r1
  have hst : PO X (some (.UnaryOp .USub (.Constant (.int 1) k p1) p2)) (tPart (tUn (rU fun i => .int (-i)) (tC (.int 1)))) := po_some (pe_un un_neg pe_int)
  refine wpAny_Slice (thn (po_none.run pins s1 σ H1 (fun o H2 => o = none ∧ H2 = H1) I1 ⟨rfl, rfl⟩) fun vl s2 ⟨l, H2, I2, pl, el, e2⟩ => ?_)
  subst el e2
  refine thn (po_none.run pins s2 σ H2 (fun o H3 => o = none ∧ H3 = H2) I2 ⟨rfl, rfl⟩) fun vu s3 ⟨u, H3, I3, pu, eu, e3⟩ => ?_
  subst eu e3
  refine thn (hst.run pins s3 σ H3 (fun o H4 => o = some (-1) ∧ H4 = H3) I3 ⟨1, rfl, -1, rfl, rfl, rfl⟩) fun vs s4 ⟨o, H4, I4, ps, eo, e4⟩ => ?_
  subst eo e4
  have I5 : Inv X pins σ H4 { s4 with heap := s4.heap.push { cls := .type "slice", data := .fields #[vl, vu, vs] } } := I4.kept (t' := s4.toks) fun b ob q => Heap.get?_push_of_some _ q
  show wpAny (model X.prog X.w) X.A (subscriptTail e (.Slice none none (some (.UnaryOp .USub (.Constant (.int 1) k p1) p2)) p3) (.str z t) (.ref s4.heap.objs.size)) (EP X pins σ Q) X.xe { s4 with heap := s4.heap.push { cls := .type "slice", data := .fields #[vl, vu, vs] } }
  refine tail_any (ops := [.str z t, .ref s4.heap.objs.size]) (typeIs_str _ _ _) (PySem.F.slot_str_getitem.lookup) ?_ (by with_unfolding_all rfl)
  cases pl
  cases pu
  cases ps with
  | int _ t' =>
    refine wpAny_getItem_str_slice (l := none) (u := none) (st := some (-1, t')) ⟨_, Heap.get?_push_size _ rfl, rfl, rfl⟩ rfl ?_
    have e : sliceMade z t none none (some (-1, t')) = Made.str (revS z) := by
      unfold sliceMade slicePicked
      rw [if_neg (by intro q; exact absurd (Bool.and_eq_true_iff.mp q).1 (by show ¬ ((-1 : Int) == 1) = true; decide))]
      show Made.str ⟨((Builtin.Str.strSliceIndices none none (-1) z.length).filterMap (z.cps[·]?)).toArray⟩ = _
      rw [indices_rev, List.filterMap_reverse]
      unfold revS
      rw [← all_cps z.cps]
      rfl
    rw [e]
    exact ⟨by rw [revS_len]; exact hz, .str _, H4, I5.tok _, ⟨_, rfl⟩, q⟩
end
end Bx
namespace Bx
open PySem PySem.Spec PyProof.Rows L2
/-! ### statements with a text's replace: a token is out -/
section
variable {X : Cx}
/-- if e op 0: .. (behind the number a token is out) -/
theorem ps_ifT {op : CmpOp} {r : R2} {a : Expr} {ta : TE} {i : Int} {j : Nat} {pc cpos pos : Pos} {sts els : List Stmt} {t u : TS} (ho : OpR X (compareOp op) r) (ha : PE X a ta) (hm : behindInMarks op (.Constant (.int i) j pc) = false) (hs : PSsT X sts t) (he : PSsT X els u) :
    PS X (.If (.Compare a [op] [.Constant (.int i) j pc] cpos) sts els pos) (tIfS (tTest (tOp r ta (tC (.int i)))) t u) := by
  refine ⟨fun pins s σ H D I h => ?_⟩
  refine wpAny_If (wpAny_isTrue_Compare1 (thn (ha.run pins s σ H _ I h) fun v s1 ⟨x, H1, I1, r1, q1⟩ => wpAny_Constant_int ?_) hm)
  refine wpAny_mono (PySem.wpAny_toks (ho pins { s1 with toks := s1.toks + 1 } σ H1 x (.int i) v (.int i s1.toks) _ (I1.tok _) r1 ⟨_, rfl⟩ q1)) (fun c s3 q => ?_) fun _ _ z => z.2
  obtain ⟨hk, z, H3, I3, r3, k, e, q3⟩ := q
  subst e
  cases r3
  refine wpAny_truthy_bool ?_
  have h1 : 1 ≤ s3.toks := Nat.le_trans (Nat.le_add_left 1 s1.toks) hk
  cases k with
  | true => exact hs pins s3 σ H3 D h1 I3 q3
  | false => exact he pins s3 σ H3 D h1 I3 q3
theorem pst_set {i : Nat} {x : Str} {e : Expr} {te : TE} {pos pos' : Pos} (hN : X.N.Nodup) (hi : X.N[i]? = some x) (hx : Loc X.env.scope x) (he : PET X e te) (hs : swapsWith e (some (.Name x pos')) pos.line X.env = pure false := by rfl) (hf : X.fn x = true ∨ X.env.scope.names.lookup x = some .local := by first | exact .inl rfl | exact .inr rfl | assumption) :
    PST X (.Assign [.Name x pos'] e pos) (tAsg te (gName i)) := by
  intro pins s σ H D h0 I h
  refine wpAny_Assign_Name (thn (he pins s σ H _ h0 I h) fun v s1 ⟨y, H1, I1, r1, q1⟩ => ?_) hs
  exact store_ok I1 hN hi hx r1 (fun s2 I2 => ⟨_, H1, I2, q1⟩) hf
theorem pet_G {CX : CXT} {k : Nat} {ps : List Str} {sp : Sp} {E : XK} {x : Str} {p pos : Pos} {e : Expr} {es : List Expr} {t : TA} (F : Good X.prog X.w X.K X.mg X.base CX k x ps sp) (hr : Room k X.A) (hg : Gl X x) (hx : Passes CX X E) (ha : PAT X (e :: es) t)
    (hdb : (x == ("__debug__" : Str)) = false := by decide) (he : starEach (e :: es) X.env = (false, eval e X.env) :: starEach es X.env := by rfl) (hpl : (backTo pos (starEach es X.env)).any (·.1) = false := by rfl) :
    PET X (.Call (.Name x p) (e :: es) [] pos) (tCall sp [] E t) := by
  obtain ⟨fd, F, b, kp, m⟩ := F
  intro pins s σ H Q h0 I h
  refine wpAny_Call_Name_kw (ld_glob I hg m ?_ hdb)
  refine PySem.W.callWith_K (h₀ := X.base) I.ok.mod.kin kp (thn (ha pos pins s σ H _ h0 I h) fun us s1 ⟨vs, H1, I1, r, q⟩ => ⟨I1.kIn, ?_⟩) he hpl
  exact run_fn F hr b .nil hx I1 r q
theorem pat_one {e : Expr} {es : List Expr} {te : TE} {ta : TA} (ha : PE X e te) (hr : PAT X es ta) (hs : starEach (e :: es) X.env = (false, eval e X.env) :: starEach es X.env := by rfl) : PAT X (e :: es) (tCons te ta) := pat_cons (fun pins s σ H Q _ I q => ha.run pins s σ H Q I q) hr hs
end
end Bx

-- needs ways ruleD ruleS signs spell
namespace Bx
open PySem PySem.Spec PyProof.Rows L2
theorem DpAll.rev' {K : PySem.W.Frag} {H : Hp} : ∀ {ds : List PyData} {vs : List V}, DpAll K H vs ds → DpAll K H vs.reverse ds.reverse
  | [], _, h => by cases h; exact .nil
  | _ :: _, _, h => by
    cases h with
    | cons h1 h2 =>
      rw [List.reverse_cons, List.reverse_cons]
      exact DpAll.append (DpAll.rev' h2) (DpAll.one h1)
/-! ### the order of two rows of runs, from the bottom up -/
def cbL : List (Bool × Nat) → List (Bool × Nat) → Option Bool
  | a :: l, b :: r => if a.1 ≠ b.1 then some a.1 else if a.2 ≠ b.2 then some (decide (a.1 = true) == decide (a.2 > b.2)) else cbL l r
  | _, _ => none
/-- X stands ahead of Y -/
def ltB : List Bool → List Bool → Bool
  | a :: l, b :: r => if a = b then ltB l r else a
  | _, _ => false
theorem ltB_pre (c : Bool) : ∀ (n : Nat) (l r : List Bool), ltB (List.replicate n c ++ l) (List.replicate n c ++ r) = ltB l r
  | 0, _, _ => rfl
  | n + 1, l, r => by
    rw [List.replicate_succ, List.cons_append, List.cons_append, ltB, if_pos rfl]
    exact ltB_pre c n l r
def AltR (l : List (Bool × Nat)) : Prop := ∀ (i : Nat) (a b : Bool × Nat), l[i]? = some a → l[i + 1]? = some b → a.1 ≠ b.1
theorem AltR.tail {a : Bool × Nat} {l : List (Bool × Nat)} (h : AltR (a :: l)) : AltR l := fun i x y h1 h2 => h (i + 1) x y h1 h2
theorem spell_cons (a : Bool × Nat) (l : List (Bool × Nat)) : spell (a :: l) = List.replicate a.2 a.1 ++ spell l := rfl
theorem head_spell {b : Bool × Nat} {r : List (Bool × Nat)} (hb : 0 < b.2) : ∃ t, spell (b :: r) = b.1 :: t := by
  rw [spell_cons]
  obtain ⟨n, hn⟩ : ∃ n, b.2 = n + 1 := ⟨b.2 - 1, by omega⟩
  rw [hn, List.replicate_succ]
  exact ⟨_, rfl⟩
theorem cnt_cons' (a : Bool × Nat) (l : List (Bool × Nat)) : cnt (a :: l) = a.2 + cnt l := by
  unfold cnt
  rw [List.map_cons, List.sum_cons]
theorem cbL_ok : ∀ (l r : List (Bool × Nat)), AltR l → AltR r → (∀ x ∈ l, 0 < x.2) → (∀ x ∈ r, 0 < x.2) → cnt l = cnt r →
    (match cbL l r with | some b => ltB (spell l) (spell r) = b ∧ spell l ≠ spell r | none => spell l = spell r)
  | [], [], _, _, _, _, _ => rfl
  | [], b :: r, _, _, _, pr, hc => by
    have := pr b List.mem_cons_self
    rw [cnt_cons'] at hc
    exact absurd hc (by show ¬ 0 = _; omega)
  | a :: l, [], _, _, pl, _, hc => by
    have := pl a List.mem_cons_self
    rw [cnt_cons'] at hc
    exact absurd hc (by show ¬ _ = 0; omega)
  | (c, n) :: l, (d, m) :: r, al, ar, pl, pr, hc => by
    have hn : 0 < n := pl (c, n) List.mem_cons_self
    have hm : 0 < m := pr (d, m) List.mem_cons_self
    have pl' : ∀ x ∈ l, 0 < x.2 := fun x hx => pl x (List.mem_cons_of_mem _ hx)
    have pr' : ∀ x ∈ r, 0 < x.2 := fun x hx => pr x (List.mem_cons_of_mem _ hx)
    rw [cnt_cons', cnt_cons'] at hc
    have hc : n + cnt l = m + cnt r := hc
    unfold cbL
    dsimp only
    by_cases h : c = d
    · subst h
      rw [if_neg (fun z => z rfl)]
      rcases Nat.lt_trichotomy n m with h2 | h2 | h2
      · rw [if_pos (by omega)]
        cases l with
        | nil => exact absurd hc (by show ¬ n + 0 = _; omega)
        | cons e l =>
          have he : 0 < e.2 := pl' e List.mem_cons_self
          have hne : c ≠ e.1 := al 0 (c, n) e rfl rfl
          obtain ⟨t, ht⟩ := head_spell (r := l) he
          obtain ⟨k, rfl⟩ : ∃ k, m = n + (k + 1) := ⟨m - n - 1, by omega⟩
          have er : spell ((c, n + (k + 1)) :: r) = List.replicate n c ++ (c :: (List.replicate k c ++ spell r)) := by
            rw [spell_cons]
            show List.replicate (n + (k + 1)) c ++ spell r = _
            rw [← List.replicate_append_replicate, List.append_assoc, List.replicate_succ]
            rfl
          have el : spell ((c, n) :: e :: l) = List.replicate n c ++ (e.1 :: t) := by rw [spell_cons, ht]
          rw [er, el]
          have hg : decide (n > n + (k + 1)) = false := decide_eq_false (by omega)
          refine ⟨?_, fun z => ?_⟩
          · rw [ltB_pre, ltB, if_neg (fun z => hne z.symm), hg]
            revert hne
            cases c <;> cases e.1 <;> simp
          · exact hne (List.cons.inj (List.append_cancel_left z)).1.symm
      · subst h2
        rw [if_neg (fun z => z rfl)]
        have ih := cbL_ok l r al.tail ar.tail pl' pr' (by omega)
        rw [spell_cons, spell_cons]
        cases q : cbL l r with
        | none =>
          rw [q] at ih
          exact congrArg (List.replicate n c ++ ·) ih
        | some b =>
          rw [q] at ih
          exact ⟨by rw [ltB_pre]; exact ih.1, fun z => ih.2 (List.append_cancel_left z)⟩
      · rw [if_pos (by omega)]
        cases r with
        | nil => exact absurd hc (by show ¬ _ = m + 0; omega)
        | cons e r =>
          have he : 0 < e.2 := pr' e List.mem_cons_self
          have hne : c ≠ e.1 := ar 0 (c, m) e rfl rfl
          obtain ⟨t, ht⟩ := head_spell (r := r) he
          obtain ⟨k, rfl⟩ : ∃ k, n = m + (k + 1) := ⟨n - m - 1, by omega⟩
          have el : spell ((c, m + (k + 1)) :: l) = List.replicate m c ++ (c :: (List.replicate k c ++ spell l)) := by
            rw [spell_cons]
            show List.replicate (m + (k + 1)) c ++ spell l = _
            rw [← List.replicate_append_replicate, List.append_assoc, List.replicate_succ]
            rfl
          have er : spell ((c, m) :: e :: r) = List.replicate m c ++ (e.1 :: t) := by rw [spell_cons, ht]
          rw [er, el]
          have hg : decide (m + (k + 1) > m) = true := decide_eq_true (by omega)
          refine ⟨?_, fun z => ?_⟩
          · rw [ltB_pre, ltB, if_neg hne, hg]
            cases c <;> rfl
          · exact hne (List.cons.inj (List.append_cancel_left z)).1
    · rw [if_pos h]
      obtain ⟨t, ht⟩ := head_spell (b := (c, n)) (r := l) hn
      obtain ⟨u, hu⟩ := head_spell (b := (d, m)) (r := r) hm
      rw [ht, hu]
      exact ⟨by rw [ltB, if_neg h], fun z => h (List.cons.inj z).1⟩
/-! ### the words -/
theorem spell_append (l r : List (Bool × Nat)) : spell (l ++ r) = spell l ++ spell r := by
  unfold spell
  rw [List.flatMap_append]
theorem spell_rev : ∀ l : List (Bool × Nat), spell l.reverse = (spell l).reverse
  | [] => rfl
  | a :: l => by
    rw [List.reverse_cons, spell_append, spell_rev l, spell_cons a l, List.reverse_append, List.reverse_replicate]
    show _ ++ (List.replicate a.2 a.1 ++ []) = _
    rw [List.append_nil]
theorem revS_sgn (l : List Bool) : revS (sgn l) = sgn l.reverse := by
  unfold revS sgn
  simp
theorem lt_codes : ∀ (l r : List Bool), l.length = r.length → decide ((l.map fun b => if b then (88 : Nat) else 89) < (r.map fun b => if b then (88 : Nat) else 89)) = ltB l r
  | [], [], _ => rfl
  | [], _ :: _, h => by cases h
  | _ :: _, [], h => by cases h
  | a :: l, b :: r, h => by
    have ih := lt_codes l r (by simpa using h)
    rw [List.map_cons, List.map_cons, ltB]
    by_cases c : a = b
    · subst c
      rw [if_pos rfl, ← ih]
      have e : (((if a = true then (88 : Nat) else 89) :: l.map fun b => if b then (88 : Nat) else 89) < ((if a = true then (88 : Nat) else 89) :: r.map fun b => if b then (88 : Nat) else 89)) ↔ ((l.map fun b => if b then (88 : Nat) else 89) < (r.map fun b => if b then (88 : Nat) else 89)) := by
        constructor
        · intro z
          rcases List.cons_lt_cons_iff.mp z with q | q
          · exact absurd q (Nat.lt_irrefl _)
          · exact q.2
        · intro z
          exact List.cons_lt_cons_iff.mpr (.inr ⟨rfl, z⟩)
      exact decide_eq_decide.mpr e
    · rw [if_neg c]
      cases a <;> cases b
      · exact absurd rfl c
      · exact decide_eq_false fun z => by
          rcases List.cons_lt_cons_iff.mp z with q | q
          · exact absurd q (by decide)
          · exact absurd q.1 (by decide)
      · exact decide_eq_true (List.cons_lt_cons_iff.mpr (.inl (by decide)))
      · exact absurd rfl c
/-! ### the keys -/
def botI (x y : Nat) : Nat := if y = 0 then 1 else if x = 0 then 2 else 0
def keyD (x y : Nat) : PyData := .tuple [.int (((L x y).length : Nat) : Int), .str (sgn (L x y).reverse), .int ((botI x y : Nat) : Int), .int ((Nat.gcd x y : Nat) : Int)]
def tailD (x y : Nat) : PyData := .tuple [.int ((botI x y : Nat) : Int), .int ((Nat.gcd x y : Nat) : Int)]
def cbP (x y u w : Nat) : Bool :=
  if cnt (R x y).reverse ≠ cnt (R u w).reverse then decide (cnt (R x y).reverse < cnt (R u w).reverse)
  else match cbL (R x y).reverse (R u w).reverse with
    | some b => b
    | none => PySem.W.dataLt (tailD x y) (tailD u w)
theorem lt_hd {a b : Int} (l r : List (Int ⊕ List Nat)) (h : a ≠ b) : PyProof.Rows.lexLt PyProof.Rows.itemOrd (.inl 1 :: (.inl a :: l)) (.inl 1 :: (.inl b :: r)) = decide (a < b) := by
  rw [PyProof.Rows.lex_self (O := PyProof.Rows.itemOrd), PyProof.Rows.lex_diff (O := PyProof.Rows.itemOrd) (fun z => h (Sum.inl.inj z))]
  rfl
theorem lt_hs {a b : List Nat} (l r : List (Int ⊕ List Nat)) (h : a ≠ b) : PyProof.Rows.lexLt PyProof.Rows.itemOrd (.inl 1 :: (.inr a :: l)) (.inl 1 :: (.inr b :: r)) = decide (a < b) := by
  rw [PyProof.Rows.lex_self (O := PyProof.Rows.itemOrd), PyProof.Rows.lex_diff (O := PyProof.Rows.itemOrd) (fun z => h (Sum.inr.inj z))]
  rfl
theorem lt_same (a : Int ⊕ List Nat) (l r : List (Int ⊕ List Nat)) : PyProof.Rows.lexLt PyProof.Rows.itemOrd (.inl 1 :: (a :: l)) (.inl 1 :: (a :: r)) = PyProof.Rows.lexLt PyProof.Rows.itemOrd l r := by
  rw [PyProof.Rows.lex_self (O := PyProof.Rows.itemOrd), PyProof.Rows.lex_self (O := PyProof.Rows.itemOrd)]
theorem toks_key (n : Int) (w : Str) (i g : Int) : PySem.W.keyToksAll [.int n, .str w, .int i, .int g] = .inl 1 :: (.inl n :: (.inl 1 :: (.inr w.cps.toList :: PySem.W.keyToksAll [.int i, .int g]))) := by
  simp only [PySem.W.keyToksAll, PySem.W.keyToks]
  rfl
theorem sgn_cps (l : List Bool) : (sgn l).cps.toList = l.map fun b => if b then 88 else 89 := by
  unfold sgn
  simp
theorem map_inj_codes : ∀ {l r : List Bool}, (l.map fun b => if b then (88 : Nat) else 89) = (r.map fun b => if b then (88 : Nat) else 89) → l = r
  | [], [], _ => rfl
  | [], _ :: _, h => by cases h
  | _ :: _, [], h => by cases h
  | a :: l, b :: r, h => by
    rw [List.map_cons, List.map_cons] at h
    have h1 := (List.cons.inj h).1
    have h2 := map_inj_codes (List.cons.inj h).2
    subst h2
    cases a <;> cases b
    · rfl
    · exact absurd h1 (by decide)
    · exact absurd h1 (by decide)
    · rfl
theorem AltR.rev {l : List (Bool × Nat)} (h : AltR l) : AltR l.reverse := fun i a b h1 h2 => by
  have hi2 : i + 1 < l.length := by
    have := (List.getElem?_eq_some_iff.mp h2).1
    rw [List.length_reverse] at this
    exact this
  rw [List.getElem?_reverse (by omega)] at h1
  rw [List.getElem?_reverse hi2] at h2
  have e : l.length - 1 - i = (l.length - 1 - (i + 1)) + 1 := by omega
  rw [e] at h1
  exact fun z => h _ _ _ h2 h1 z.symm
theorem cnt_len (x y : Nat) : cnt (R x y).reverse = (L x y).length := by
  rw [← spell_R, spell_len]
  unfold cnt
  rw [List.map_reverse, List.sum_reverse]
theorem cbP_key (x y u w : Nat) : cbP x y u w = PySem.W.dataLt (keyD x y) (keyD u w) := by
  unfold cbP keyD
  rw [PySem.W.dataLt_tuple, toks_key, toks_key]
  by_cases h : cnt (R x y).reverse = cnt (R u w).reverse
  · rw [if_neg (fun z => z h)]
    have hl : (L x y).length = (L u w).length := by rw [← cnt_len, ← cnt_len]; exact h
    have ok := cbL_ok (R x y).reverse (R u w).reverse (AltR.rev (R_alt x y)) (AltR.rev (R_alt u w)) (fun r hr => R_pos' x y r (List.mem_reverse.mp hr)) (fun r hr => R_pos' u w r (List.mem_reverse.mp hr)) h
    rw [spell_rev, spell_rev, spell_R, spell_R] at ok
    rw [hl, lt_same, sgn_cps, sgn_cps]
    cases q : cbL (R x y).reverse (R u w).reverse with
    | none =>
      rw [q] at ok
      dsimp only at ok ⊢
      rw [ok, lt_same]
      unfold tailD
      rw [PySem.W.dataLt_tuple]
    | some b =>
      rw [q] at ok
      dsimp only at ok ⊢
      rw [lt_hs _ _ (fun z => ok.2 (map_inj_codes z)), lt_codes _ _ (by rw [List.length_reverse, List.length_reverse, hl])]
      exact ok.1.symm
  · rw [if_pos h]
    rw [cnt_len, cnt_len] at h ⊢
    rw [lt_hd _ _ (by omega)]
    exact decide_eq_decide.mpr (by omega)
theorem dataLt_self' (d : PyData) : PySem.W.dataLt d d = false := PySem.W.dataLt_self d
theorem cbP_self (x y : Nat) : cbP x y x y = false := by rw [cbP_key]; exact dataLt_self' _
end Bx

-- needs lists
/-! the law's bag of draws -/
namespace Bx
open PySem PySem.Spec PyProof.Rows L2
structure Bag (H : Hp) (b : Addr) : Prop where
  ex : ∃ (c : Addr) (xs : List Int) (i hold seed : Int), H b = some (.lst [.ref c, .int i, .int hold, .int seed]) ∧ H c = some (.lst (xs.map V.int)) ∧ b ≠ c ∧ xs.length ≤ 63 ∧ 0 ≤ i ∧ 0 ≤ hold ∧ 0 ≤ seed ∧ seed < 2147483647
theorem Bag.keep {H H' : Hp} {b : Addr} (B : Bag H b) (e : Same H H') : Bag H' b := by
  obtain ⟨c, xs, i, hold, seed, h1, h2, r⟩ := B.ex
  exact ⟨c, xs, i, hold, seed, e _ _ h1, e _ _ h2, r⟩
theorem Bag.at_ {H : Hp} {b : Addr} (B : Bag H b) : ∃ o, H b = some o := by
  obtain ⟨c, xs, i, hold, seed, h1, _⟩ := B.ex
  exact ⟨_, h1⟩
theorem Bag.ne {H : Hp} {b p : Addr} (B : Bag H b) (h : H p = none) : p ≠ b := fun e => by
  obtain ⟨o, q⟩ := B.at_
  rw [← e, h] at q
  cases q
/-- a tuple is not the bag -/
theorem Bag.neT {H : Hp} {b p : Addr} {xs : List V} (B : Bag H b) (h : H p = some (.tup xs)) : p ≠ b := fun e => by
  obtain ⟨c, ys, i, hold, seed, h1, _⟩ := B.ex
  rw [e, h1] at h
  cases h
theorem emod_bd (x : Int) {m : Int} (h : 0 < m) : 0 ≤ x % m ∧ x % m < m := ⟨Int.emod_nonneg x (by omega), Int.emod_lt_of_pos x h⟩
end Bx
namespace Bx
open PySem PySem.Spec PyProof.Rows L2
/-- a tuple stays behind a draw -/
theorem Bag.seqT {K : PySem.W.Frag} {H H' : Hp} {b a : Addr} {xs : List V} (B : Bag H b) (e : Kp b H H') (h : SqT K H a xs) : SqT K H' a xs := by
  have nb : ∀ o, H a = some o → (∀ ys, o ≠ .lst ys) → a ≠ b := fun o q n z => by
    obtain ⟨c, ys, i, hold, seed, h1, _⟩ := B.ex
    rw [z, h1] at q
    exact n _ (Option.some.inj q).symm
  rcases h with (h | ⟨o, h⟩) | h
  · exact .inl (.inl (e _ _ (nb _ h fun _ z => by cases z) h))
  · exact .inl (.inr ⟨o, e _ _ (nb _ h fun _ z => by cases z) h⟩)
  · exact .inr h
end Bx
-- needs deep
namespace Bx
open PySem PySem.Spec PyProof.Rows L2
theorem Bag.sameT {H H' : Hp} {b : Addr} (B : Bag H b) (e : Kp b H H') : SameT H H' := fun a o q n => by
  refine e a o (fun z => ?_) q
  obtain ⟨c, ys, i, hold, seed, h1, _⟩ := B.ex
  rw [z, h1] at q
  exact n _ (Option.some.inj q).symm
end Bx

-- needs order
namespace Bx
open PySem PySem.Spec PyProof.Rows L2
theorem R_put {x y n : Nat} {c : Bool} (hx : 0 < x) (hy : 0 < y) (hn : 0 < n) (h : if c = true then x ≤ y else y ≤ x) : R (put1 (x, y) (c, n)).1 (put1 (x, y) (c, n)).2 = (c, n) :: R x y := by
  cases c
  · have h : y ≤ x := h
    show R x (y + n * x) = (false, n) :: R x y
    have h1 : n * x ≥ x := Nat.le_mul_of_pos_left x hn
    have h2 : (y + n * x - 1) / x = n := by
      rw [show y + n * x - 1 = (y - 1) + n * x by omega, Nat.add_mul_div_right _ _ hx, Nat.div_eq_of_lt (by omega), Nat.zero_add]
    rw [R_y hx (by omega), h2, Nat.add_sub_cancel]
  · have h : x ≤ y := h
    show R (x + n * y) y = (true, n) :: R x y
    have h1 : n * y ≥ y := Nat.le_mul_of_pos_left y hn
    have h2 : (x + n * y - 1) / y = n := by
      rw [show x + n * y - 1 = (x - 1) + n * y by omega, Nat.add_mul_div_right _ _ hy, Nat.div_eq_of_lt (by omega), Nat.zero_add]
    rw [R_x hy (by omega), h2, Nat.add_sub_cancel]
theorem grow_pos {g : Nat} (hg : 0 < g) (l : List (Bool × Nat)) : 0 < (grow (g, g) l).1 ∧ 0 < (grow (g, g) l).2 := by
  have h := grow_le l (g, g)
  exact ⟨Nat.lt_of_lt_of_le hg h.1, Nat.lt_of_lt_of_le hg h.2⟩
theorem R_ne_nil {x y : Nat} (hx : 0 < x) (hy : 0 < y) (h : R x y = []) : x = y := by
  by_cases c : x = y
  · exact c
  · exfalso
    rcases Nat.lt_or_gt_of_ne c with z | z
    · rw [R_y hx z] at h
      cases h
    · rw [R_x hy z] at h
      cases h
theorem R_grow_rev {g : Nat} (hg : 0 < g) : ∀ l : List (Bool × Nat), AltR l → (∀ r ∈ l, 0 < r.2) → R (grow (g, g) l.reverse).1 (grow (g, g) l.reverse).2 = l
  | [], _, _ => R_nil (fun z => z.2.2 rfl)
  | (c, n) :: t, ha, hp => by
    have ih := R_grow_rev hg t ha.tail fun r hr => hp r (List.mem_cons_of_mem _ hr)
    have hpos := grow_pos hg t.reverse
    rw [List.reverse_cons, grow_app]
    show R (put1 (grow (g, g) t.reverse) (c, n)).1 (put1 (grow (g, g) t.reverse) (c, n)).2 = _
    generalize grow (g, g) t.reverse = p at *
    obtain ⟨x, y⟩ := p
    have hx : 0 < x := hpos.1
    have hy : 0 < y := hpos.2
    have ih : R x y = t := ih
    rw [R_put hx hy (hp (c, n) List.mem_cons_self) ?_, ih]
    cases t with
    | nil =>
      have e := R_ne_nil hx hy ih
      subst e
      split <;> exact Nat.le_refl _
    | cons s t =>
      have h0 : (R x y)[0]? = some s := by rw [ih]; rfl
      have hd := R_head h0
      have hne : c ≠ s.1 := ha 0 (c, n) s rfl rfl
      cases c
      · have : s.1 = true := by cases q : s.1; exact absurd q.symm hne; rfl
        have := hd.2.2.2.mp this
        show y ≤ x
        omega
      · have h2 : ¬ s.1 = true := fun z => hne z.symm
        have : ¬ x > y := fun z => h2 (hd.2.2.2.mpr z)
        show x ≤ y
        omega
theorem R_grow {g : Nat} (hg : 0 < g) {l : List (Bool × Nat)} (ha : AltR l) (hp : ∀ r ∈ l, 0 < r.2) : (R (grow (g, g) l).1 (grow (g, g) l).2).reverse = l := by
  have h := R_grow_rev hg l.reverse ha.rev fun r hr => hp r (List.mem_reverse.mp hr)
  rw [List.reverse_reverse] at h
  rw [h, List.reverse_reverse]
theorem put_mono {a b a' b' n n' : Nat} {c : Bool} (h1 : a ≤ a') (h2 : b ≤ b') (hn : n ≤ n') : (put1 (a, b) (c, n)).1 ≤ (put1 (a', b') (c, n')).1 ∧ (put1 (a, b) (c, n)).2 ≤ (put1 (a', b') (c, n')).2 := by
  cases c
  · exact ⟨h1, Nat.add_le_add h2 (Nat.mul_le_mul hn h1)⟩
  · exact ⟨Nat.add_le_add h1 (Nat.mul_le_mul hn h2), h2⟩
theorem grow_mono : ∀ (l : List (Bool × Nat)) {p q : Nat × Nat}, p.1 ≤ q.1 → p.2 ≤ q.2 → (grow p l).1 ≤ (grow q l).1 ∧ (grow p l).2 ≤ (grow q l).2
  | [], _, _, h1, h2 => ⟨h1, h2⟩
  | (c, n) :: l, (a, b), (a', b'), h1, h2 => by
    have h := put_mono (c := c) h1 h2 (Nat.le_refl n)
    exact grow_mono l h.1 h.2
theorem grow_mul (k : Nat) : ∀ (l : List (Bool × Nat)) (a b : Nat), grow (k * a, k * b) l = (k * (grow (a, b) l).1, k * (grow (a, b) l).2)
  | [], _, _ => rfl
  | (c, n) :: l, a, b => by
    cases c
    · show grow (k * a, k * b + n * (k * a)) l = (k * (grow (a, b + n * a) l).1, k * (grow (a, b + n * a) l).2)
      rw [← grow_mul k l, Nat.mul_add, Nat.mul_left_comm]
    · show grow (k * a + n * (k * b), k * b) l = (k * (grow (a + n * b, b) l).1, k * (grow (a + n * b, b) l).2)
      rw [← grow_mul k l, Nat.mul_add, Nat.mul_left_comm]
/-! ### one letter moved from the last run to the first -/
def cut1 (r : Bool × Nat) : List (Bool × Nat) := if r.2 > 1 then [(r.1, r.2 - 1)] else []
def twist2 (a : Bool × Nat) (mid : List (Bool × Nat)) (z : Bool × Nat) : List (Bool × Nat) := (a.1, a.2 + 1) :: (mid ++ cut1 z)
theorem cnt_app' (l r : List (Bool × Nat)) : cnt (l ++ r) = cnt l + cnt r := cnt_app l r
theorem cnt_twist {a z : Bool × Nat} {mid : List (Bool × Nat)} (hz : 0 < z.2) : cnt (twist2 a mid z) = cnt (a :: (mid ++ [z])) := by
  unfold twist2 cut1
  rw [cnt_cons', cnt_cons', cnt_app', cnt_app', cnt_cons']
  split
  · rw [cnt_cons']
    show a.2 + 1 + (cnt mid + (z.2 - 1 + 0)) = a.2 + (cnt mid + (z.2 + 0))
    omega
  · show a.2 + 1 + (cnt mid + 0) = a.2 + (cnt mid + (z.2 + 0))
    omega
theorem twist_get {a z : Bool × Nat} {mid : List (Bool × Nat)} {i : Nat} {r : Bool × Nat} (h : (twist2 a mid z)[i]? = some r) : ∃ s, (a :: (mid ++ [z]))[i]? = some s ∧ s.1 = r.1 := by
  cases i with
  | zero =>
    cases h
    exact ⟨a, rfl, rfl⟩
  | succ i =>
    have h : (mid ++ cut1 z)[i]? = some r := h
    show ∃ s, (mid ++ [z])[i]? = some s ∧ s.1 = r.1
    by_cases c : i < mid.length
    · rw [List.getElem?_append_left c] at h
      exact ⟨r, by rw [List.getElem?_append_left c]; exact h, rfl⟩
    · rw [List.getElem?_append_right (by omega)] at h
      unfold cut1 at h
      split at h
      · cases q : i - mid.length with
        | zero =>
          rw [q] at h
          cases h
          exact ⟨z, by rw [List.getElem?_append_right (by omega), q]; rfl, rfl⟩
        | succ k =>
          rw [q] at h
          cases h
      · cases h
theorem twist_alt {a z : Bool × Nat} {mid : List (Bool × Nat)} (h : AltR (a :: (mid ++ [z]))) : AltR (twist2 a mid z) := fun i x y h1 h2 => by
  obtain ⟨s, e1, e2⟩ := twist_get h1
  obtain ⟨t, e3, e4⟩ := twist_get h2
  rw [← e2, ← e4]
  exact h i s t e1 e3
theorem twist_pos {a z : Bool × Nat} {mid : List (Bool × Nat)} (h : ∀ r ∈ a :: (mid ++ [z]), 0 < r.2) : ∀ r ∈ twist2 a mid z, 0 < r.2 := fun r hr => by
  rcases List.mem_cons.mp hr with e | hr
  · rw [e]; exact Nat.succ_pos _
  · rcases List.mem_append.mp hr with hr | hr
    · exact h r (List.mem_cons_of_mem _ (List.mem_append_left _ hr))
    · unfold cut1 at hr
      split at hr
      · rw [List.mem_singleton] at hr
        rw [hr]
        show 0 < z.2 - 1
        omega
      · cases hr
theorem grow_twist {s : Nat} {a z : Bool × Nat} {mid : List (Bool × Nat)} (ha : 0 < a.2) : (grow (s, s) (twist2 a mid z)).1 ≤ 2 * (grow (s, s) (a :: (mid ++ [z]))).1 ∧ (grow (s, s) (twist2 a mid z)).2 ≤ 2 * (grow (s, s) (a :: (mid ++ [z]))).2 := by
  have e := grow_mul 2 (a :: (mid ++ [z])) s s
  have last : ∀ p q : Nat × Nat, p.1 ≤ q.1 → p.2 ≤ q.2 → (grow p (cut1 z)).1 ≤ (grow q [z]).1 ∧ (grow p (cut1 z)).2 ≤ (grow q [z]).2 := fun p q h1 h2 => by
    have hq := put1_le q z
    unfold cut1
    split
    · obtain ⟨c, n⟩ := z
      exact put_mono (a := p.1) (b := p.2) (a' := q.1) (b' := q.2) h1 h2 (Nat.sub_le n 1)
    · exact ⟨Nat.le_trans h1 hq.1, Nat.le_trans h2 hq.2⟩
  have first : (put1 (s, s) (a.1, a.2 + 1)).1 ≤ (put1 (2 * s, 2 * s) a).1 ∧ (put1 (s, s) (a.1, a.2 + 1)).2 ≤ (put1 (2 * s, 2 * s) a).2 := by
    obtain ⟨c, n⟩ := a
    have h : s + (n + 1) * s ≤ 2 * s + n * (2 * s) := by
      rw [Nat.add_mul, Nat.one_mul]
      have : n * s ≤ n * (2 * s) := Nat.mul_le_mul_left n (by omega)
      omega
    cases c
    · exact ⟨(by show s ≤ 2 * s; omega), h⟩
    · exact ⟨h, (by show s ≤ 2 * s; omega)⟩
  have m := grow_mono mid first.1 first.2
  have f := last _ _ m.1 m.2
  have e1 : grow (s, s) (twist2 a mid z) = grow (grow (put1 (s, s) (a.1, a.2 + 1)) mid) (cut1 z) := by
    unfold twist2
    show grow (put1 (s, s) (a.1, a.2 + 1)) (mid ++ cut1 z) = _
    rw [grow_app]
  have e2 : grow (2 * s, 2 * s) (a :: (mid ++ [z])) = grow (grow (put1 (2 * s, 2 * s) a) mid) [z] := by
    show grow (put1 (2 * s, 2 * s) a) (mid ++ [z]) = _
    rw [grow_app]
  rw [e1]
  rw [e2] at e
  rw [e] at f
  exact f
theorem cbL_twist {a z : Bool × Nat} {mid : List (Bool × Nat)} : cbL (a :: (mid ++ [z])) (twist2 a mid z) = some (!a.1) ∧ cbL (twist2 a mid z) (a :: (mid ++ [z])) = some a.1 := by
  unfold twist2 cbL
  dsimp only
  rw [if_neg (fun z => z rfl), if_pos (by omega), if_neg (fun z => z rfl), if_pos (by omega), decide_eq_false (show ¬ a.2 > a.2 + 1 by omega), decide_eq_true (show a.2 + 1 > a.2 by omega)]
  cases a.1 <;> exact ⟨rfl, rfl⟩
theorem cb_twist {s : Nat} {a z : Bool × Nat} {mid : List (Bool × Nat)} (hs : 0 < s) (hA : AltR (a :: (mid ++ [z]))) (hp : ∀ r ∈ a :: (mid ++ [z]), 0 < r.2) :
    cbP (grow (s, s) (a :: (mid ++ [z]))).1 (grow (s, s) (a :: (mid ++ [z]))).2 (grow (s, s) (twist2 a mid z)).1 (grow (s, s) (twist2 a mid z)).2 = !a.1 ∧
    cbP (grow (s, s) (twist2 a mid z)).1 (grow (s, s) (twist2 a mid z)).2 (grow (s, s) (a :: (mid ++ [z]))).1 (grow (s, s) (a :: (mid ++ [z]))).2 = a.1 := by
  have r1 := R_grow hs hA hp
  have r2 := R_grow hs (twist_alt hA) (twist_pos hp)
  have hc := cnt_twist (a := a) (mid := mid) (hp z (by simp))
  unfold cbP
  rw [r1, r2, hc, if_neg (fun z => z rfl), if_neg (fun z => z rfl), cbL_twist.1, cbL_twist.2]
  exact ⟨rfl, rfl⟩
theorem two_ends {α : Type} {l : List α} (h : 1 < l.length) : ∃ a mid z, l = a :: (mid ++ [z]) := by
  cases l with
  | nil => cases h
  | cons a t =>
    have ht : t ≠ [] := fun e => by rw [e] at h; exact absurd h (by show ¬ 1 < 1; decide)
    exact ⟨a, t.dropLast, t.getLast ht, by rw [List.dropLast_concat_getLast]⟩
end Bx

namespace Lw
open PySem PySem.Spec PyProof.Rows L2 Bx
def top (i : Nat) : Stmt := PySem.Challenge.pw_addpath_k04_order_of_pairs.main.body.getD i (.Pass ⟨0, 0, 0, 0⟩)
abbrev s_common_divisor : Stmt := top 5
abbrev s_is_number : Stmt := top 4
abbrev s_is_pair : Stmt := top 8
abbrev s_need_pair : Stmt := top 9
abbrev s_divisor : Stmt := top 10
abbrev s_bottom : Stmt := top 11
abbrev s_runs : Stmt := top 12
abbrev s_comes_before : Stmt := top 13
abbrev s__law_same : Stmt := top 18
abbrev s__law_made : Stmt := top 28
abbrev s__law_twisted : Stmt := top 27
abbrev s__law_pull : Stmt := top 16
abbrev s__law_runs : Stmt := top 21
abbrev s__law_of : Stmt := top 17
abbrev s__law_far_pair : Stmt := top 26
abbrev s__law_gcd : Stmt := top 19
abbrev s__law_bottom : Stmt := top 22
abbrev s__law_letters : Stmt := top 23
abbrev s__law_key : Stmt := top 24
abbrev s__law_grown : Stmt := top 25
abbrev s__law_pair : Stmt := top 20
abbrev s__law_bag : Stmt := top 15
abbrev s_law : Stmt := top 29
def d_common_divisor : He.DefD := ⟨("common_divisor", none), "common_divisor", "common_divisor", defArgs s_common_divisor, defBody s_common_divisor, defScope s_common_divisor, [], []⟩
def d_is_number : He.DefD := ⟨("is_number", none), "is_number", "is_number", defArgs s_is_number, defBody s_is_number, defScope s_is_number, [], []⟩
def d_is_pair : He.DefD := ⟨("is_pair", none), "is_pair", "is_pair", defArgs s_is_pair, defBody s_is_pair, defScope s_is_pair, [], []⟩
def d_need_pair : He.DefD := ⟨("need_pair", none), "need_pair", "need_pair", defArgs s_need_pair, defBody s_need_pair, defScope s_need_pair, [], []⟩
def d_divisor : He.DefD := ⟨("divisor", none), "divisor", "divisor", defArgs s_divisor, defBody s_divisor, defScope s_divisor, [], []⟩
def d_bottom : He.DefD := ⟨("bottom", none), "bottom", "bottom", defArgs s_bottom, defBody s_bottom, defScope s_bottom, [], []⟩
def d_runs : He.DefD := ⟨("runs", none), "runs", "runs", defArgs s_runs, defBody s_runs, defScope s_runs, [], []⟩
def d_comes_before : He.DefD := ⟨("comes_before", none), "comes_before", "comes_before", defArgs s_comes_before, defBody s_comes_before, defScope s_comes_before, [], []⟩
def d__law_same : He.DefD := ⟨("_law_same", none), "_law_same", "_law_same", defArgs s__law_same, defBody s__law_same, defScope s__law_same, [], []⟩
def d__law_made : He.DefD := ⟨("_law_made", none), "_law_made", "_law_made", defArgs s__law_made, defBody s__law_made, defScope s__law_made, [], []⟩
def d__law_twisted : He.DefD := ⟨("_law_twisted", none), "_law_twisted", "_law_twisted", defArgs s__law_twisted, defBody s__law_twisted, defScope s__law_twisted, [], []⟩
def d__law_pull : He.DefD := ⟨("_law_pull", none), "_law_pull", "_law_pull", defArgs s__law_pull, defBody s__law_pull, defScope s__law_pull, [], []⟩
def d__law_runs : He.DefD := ⟨("_law_runs", none), "_law_runs", "_law_runs", defArgs s__law_runs, defBody s__law_runs, defScope s__law_runs, [], []⟩
def d__law_of : He.DefD := ⟨("_law_of", none), "_law_of", "_law_of", defArgs s__law_of, defBody s__law_of, defScope s__law_of, [], []⟩
def d__law_far_pair : He.DefD := ⟨("_law_far_pair", none), "_law_far_pair", "_law_far_pair", defArgs s__law_far_pair, defBody s__law_far_pair, defScope s__law_far_pair, [], []⟩
def d__law_gcd : He.DefD := ⟨("_law_gcd", none), "_law_gcd", "_law_gcd", defArgs s__law_gcd, defBody s__law_gcd, defScope s__law_gcd, [], []⟩
def d__law_bottom : He.DefD := ⟨("_law_bottom", none), "_law_bottom", "_law_bottom", defArgs s__law_bottom, defBody s__law_bottom, defScope s__law_bottom, [], []⟩
def d__law_letters : He.DefD := ⟨("_law_letters", none), "_law_letters", "_law_letters", defArgs s__law_letters, defBody s__law_letters, defScope s__law_letters, [], []⟩
def d__law_key : He.DefD := ⟨("_law_key", none), "_law_key", "_law_key", defArgs s__law_key, defBody s__law_key, defScope s__law_key, [], []⟩
def d__law_grown : He.DefD := ⟨("_law_grown", none), "_law_grown", "_law_grown", defArgs s__law_grown, defBody s__law_grown, defScope s__law_grown, [], []⟩
def d__law_pair : He.DefD := ⟨("_law_pair", none), "_law_pair", "_law_pair", defArgs s__law_pair, defBody s__law_pair, defScope s__law_pair, [], []⟩
def d__law_bag : He.DefD := ⟨("_law_bag", none), "_law_bag", "_law_bag", defArgs s__law_bag, defBody s__law_bag, defScope s__law_bag, [], []⟩
def d_law : He.DefD := ⟨("law", none), "law", "law", defArgs s_law, defBody s_law, defScope s_law, [], []⟩
def fnl : List He.DefD := [d_common_divisor, d_is_number, d_is_pair, d_need_pair, d_divisor, d_bottom, d_runs, d_comes_before, d__law_same, d__law_made, d__law_twisted, d__law_pull, d__law_runs, d__law_of, d__law_far_pair, d__law_gcd, d__law_bottom, d__law_letters, d__law_key, d__law_grown, d__law_pair, d__law_bag, d_law]
def glos : List Str := ["common_divisor", "is_number", "is_pair", "need_pair", "divisor", "bottom", "runs", "comes_before", "_law_same", "_law_made", "_law_twisted", "_law_pull", "_law_runs", "_law_of", "_law_far_pair", "_law_gcd", "_law_bottom", "_law_letters", "_law_key", "_law_grown", "_law_pair", "_law_bag", "law", "BOTTOMS"]
def frees : List Str := ["isinstance", "bool", "int", "len", "tuple", "zip", "sum", "str", "list", "all", "range"]
def fal : List He.Fa := glos.map .glo ++ frees.map .free
def exl : List (PySem.W.Frag → Bool) := [fun K => He.tupB K "BOTTOMS" [(.str "even"), (.str "flat"), (.str "steep")], fun K => tupN K "BOTTOMS"]
def exf (K : PySem.W.Frag) : Bool := exl.all fun f => f K
abbrev En := Env fal fnl exf
theorem En.fx {K : PySem.W.Frag} {mg : Str → Option Value} (E : En K mg) (i : Nat) {f : PySem.W.Frag → Bool} (h : exl[i]? = some f := by rfl) : f K = true := List.all_eq_true.mp E.more f (List.mem_of_getElem? h)
theorem ty_BOTTOMS {K : PySem.W.Frag} {mg : Str → Option Value} (E : En K mg) (H : Hp) : tyV K "tuple" (.ref (He.ga K "BOTTOMS")) H := tupN_ok (E.fx 1) H
theorem at_BOTTOMS {K : PySem.W.Frag} {mg : Str → Option Value} (E : En K mg) (H : Hp) : SqT K H (He.ga K "BOTTOMS") (([(.str "even"), (.str "flat"), (.str "steep")] : List He.Dv).map (He.Dv.v K)) := He.tupB_ok (E.fx 0) H
theorem in_glos {x : Str} (h : x ∈ glos) : He.Fa.glo x ∈ fal := (List.mem_append_left _ (List.mem_map_of_mem h))
theorem in_frees {x : Str} (h : x ∈ frees) : He.Fa.free x ∈ fal := (List.mem_append_right _ (List.mem_map_of_mem h))
theorem En.gl {K : PySem.W.Frag} {mg : Str → Option Value} (E : En K mg) (x : Str) (h : x ∈ glos := by decide +kernel) : mg x = some (.ref (He.ga K x)) := Env.glo E x (in_glos h)
theorem En.fr {K : PySem.W.Frag} {mg : Str → Option Value} (E : En K mg) (x : Str) (h : x ∈ frees := by decide +kernel) : mg x = none := Env.free E x (in_frees h)
section
variable {P : Program} {w : World} {K : PySem.W.Frag} {mg : Str → Option Value} {base : Heap}
/-! ### common_divisor -/
def sp_common_divisor (K : PySem.W.Frag) : Sp := fun vs H Q _ => ∃ x y : Nat, vs = [.int (x : Int), .int (y : Int)] ∧ Q (.int ((Nat.gcd x y : Nat) : Int)) H

theorem sc_common_divisor : FnScope ["one", "other"] ["one", "other"] (defScope s_common_divisor) := ⟨rfl, rfl, rfl, by decide +kernel, rfl, by decide +kernel, by decide +kernel⟩
theorem ok_common_divisor (E : En K mg) : Good P w K mg base CX0 1 "common_divisor" ["one", "other"] (sp_common_divisor K) := by
  obtain ⟨fd, F⟩ := E.says.def_ 0 (d := d_common_divisor) rfl
  refine ⟨fd, ?_, F.bindsN fun _ _ _ _ _ _ us hl => match us, hl with | [_, _], _ => rfl, F.kp, E.gl "common_divisor"⟩
  refine F.ok sc_common_divisor (fun vs H Q E' h => ?_) (fun cdv A outer s H vs Q E' hr h => ?_)
  · obtain ⟨x, y, rfl, _⟩ := h; rfl
  · have hu64 := hu64_of hr
    refine ⟨_, PSs.nox (pss_cons (ps_while PassesOwn.never (pt_cmpR op_ne (pv 1) pe_int (nomark _))
        (pss_one (ps_par (i := 0) (j := 1) rfl sc_common_divisor.nd rfl rfl (by decide) rfl rfl (pa_cons (pv 1) (pa_cons (pe_op op_mod (pv 0) (pv 1)) pa_nil)) rfl)))
      (pss_one (ps_ret (pv 0)))), ?_⟩
    obtain ⟨x, y, rfl, k⟩ := h
    refine ⟨fun m σ H' => ∃ a b : Nat, m = b ∧ σ = [some (.int (a : Int)), some (.int (b : Int))] ∧ H' = H ∧ Nat.gcd a b = Nat.gcd x y, ⟨y, x, y, rfl, rfl, rfl, rfl⟩, ?_⟩
    rintro m σ H' ⟨a, b, rfl, rfl, rfl, hg⟩
    refine ⟨_, rfl, rfl, _, rfl, ?_⟩
    refine ite2 (fun c => ?_) (fun c => ?_)
    · have c' : (0 : Int) < (m : Int) := by
        have q : ¬ (m : Int) = 0 := fun e => by rw [e] at c; cases c
        omega
      refine ⟨fun σ' H'' => ∃ m', m' < m ∧ ∃ a b : Nat, m' = b ∧ σ' = [some (.int (a : Int)), some (.int (b : Int))] ∧ H'' = H' ∧ Nat.gcd a b = Nat.gcd x y, fun _ _ q => q, ?_⟩
      refine ⟨_, rfl, _, rfl, _, rfl, _, _, rfl, rfl, c', _, _, rfl, ?_⟩
      refine ⟨a % m, Nat.mod_lt _ (by omega), m, a % m, rfl, ?_, rfl, ?_⟩
      · show [some (V.int (m : Int)), some (V.int ((a : Int) % (m : Int)))] = _
        rw [Int.natCast_emod]
      · rw [← hg, Nat.gcd_comm m, Nat.gcd_comm a m, ← Nat.gcd_rec]
    · have e : m = 0 := by
        by_cases z : (m : Int) = 0
        · omega
        · exact absurd (by rw [dne z]; rfl) c
      subst e
      rw [Nat.gcd_zero_right] at hg
      refine ⟨_, rfl, ?_⟩
      show Q (.int (a : Int)) H'
      rw [hg]
      exact k

/-! ### is_number -/
/-- by the value's type alone -/
def sp_is_number (K : PySem.W.Frag) : Sp := fun vs H Q _ => ∃ (v : V) (t : String) (b1 b2 : Bool), vs = [v] ∧ TyX K H v (.type t) ∧ kitB t "int" = some b1 ∧ kitB t "bool" = some b2 ∧ Q (.bl (b1 && !b2)) H
theorem sp_number_int {K : PySem.W.Frag} {H : Hp} {Q : VK} {E : XK} {i : Int} (q : Q (.bl true) H) : sp_is_number K [.int i] H Q E := ⟨_, "int", true, false, rfl, .base (.int i), by decide +kernel, by decide +kernel, q⟩

theorem sc_is_number : FnScope ["value"] ["value"] (defScope s_is_number) := ⟨rfl, rfl, rfl, by decide +kernel, rfl, by decide +kernel, by decide +kernel⟩
theorem ok_is_number (E : En K mg) : Good P w K mg base CX0 1 "is_number" ["value"] (sp_is_number K) := by
  obtain ⟨fd, F⟩ := E.says.def_ 1 (d := d_is_number) rfl
  refine ⟨fd, ?_, F.bindsN fun _ _ _ _ _ _ us hl => match us, hl with | [_], _ => rfl, F.kp, E.gl "is_number"⟩
  refine F.ok sc_is_number (fun vs H Q E' h => ?_) (fun cdv A outer s H vs Q E' hr h => ?_)
  · obtain ⟨v, t, b1, b2, rfl, _⟩ := h; rfl
  · have hu64 := hu64_of hr
    refine ⟨_, PSs.nox (pss_one (ps_ret (pe_and (pe_callB call_isi (by rfl) (E.fr "isinstance") (by decide +kernel) (pa_cons (pv 0) (pa_cons (pe_bltn (v := .ty "int") (by rfl) (E.fr "int") (by decide +kernel) rfl) pa_nil))) (pe_one (pe_not (pe_callB call_isi (by rfl) (E.fr "isinstance") (by decide +kernel) (pa_cons (pv 0) (pa_cons (pe_bltn (v := .ty "bool") (by rfl) (E.fr "bool") (by decide +kernel) rfl) pa_nil)))))))), ?_⟩
    obtain ⟨v, t, b1, b2, rfl, T, e1, e2, k⟩ := h
    refine ⟨_, rfl, _, _, _, _, _, rfl, .ty _, T, kit_ty e1, _, rfl, ?_⟩
    cases b1 with
    | false => exact ite_f rfl k
    | true => exact ite_t rfl ⟨_, rfl, _, _, _, _, _, rfl, .ty _, T, kit_ty e2, _, rfl, k⟩

/-! ### is_pair -/
/-- a pair of numbers from 0 on that are not both 0 -/
def sp_is_pair (K : PySem.W.Frag) : Sp := fun vs H Q _ => ∃ (v : V) (x y : Nat), vs = [v] ∧ PairAt K H v x y ∧ ¬ (x = 0 ∧ y = 0) ∧ ∀ H', Same H H' → Q (.bl true) H'

theorem sc_is_pair : FnScope ["value"] ["value"] (defScope s_is_pair) := ⟨rfl, rfl, rfl, by decide +kernel, rfl, by decide +kernel, by decide +kernel⟩
theorem ok_is_pair (E : En K mg) (G_is_number : Good P w K mg base CX0 1 "is_number" ["value"] (sp_is_number K)) : Good P w K mg base CX0 2 "is_pair" ["value"] (sp_is_pair K) := by
  obtain ⟨fd, F⟩ := E.says.def_ 2 (d := d_is_pair) rfl
  refine ⟨fd, ?_, F.bindsN fun _ _ _ _ _ _ us hl => match us, hl with | [_], _ => rfl, F.kp, E.gl "is_pair"⟩
  refine F.ok sc_is_pair (fun vs H Q E' h => ?_) (fun cdv A outer s H vs Q E' hr h => ?_)
  · obtain ⟨v, x, y, rfl, _⟩ := h; rfl
  · have hu64 := hu64_of hr
    refine ⟨_, PSs.nox (pss_cons (ps_if (PW.pt (pw_or (pt_not (pt_val (pe_callB call_isi (by rfl) (E.fr "isinstance") (by decide +kernel) (pa_cons (pv 0) (pa_cons (pe_bltn (v := .ty "tuple") (by rfl) (E.fr "tuple") (by decide +kernel) rfl) pa_nil))))) (pw_or (pt_cmpR op_ne (pe_callB call_len_seq (by rfl) (E.fr "len") (by decide +kernel) (pa_cons (pv 0) pa_nil)) pe_int (nomark _)) (pw_or (pt_not (pt_val (pe_G G_is_number (hr.mono (by decide)) rfl pass0 (pa_cons (pe_ix ix_tup (pv 0) pe_int (fun _ _ => rfl)) pa_nil)))) (pw_or1 (pt_not (pt_val (pe_G G_is_number (hr.mono (by decide)) rfl pass0 (pa_cons (pe_ix ix_tup (pv 0) pe_int (fun _ _ => rfl)) pa_nil)))))))))
        (pss_one (ps_ret pe_bl))
        pss_nil)
      (pss_one (ps_ret (pe_and (pe_cmpR op_ge (pe_ix ix_tup (pv 0) pe_int (fun _ _ => rfl)) pe_int (nomark _)) (pe_and (pe_cmpR op_ge (pe_ix ix_tup (pv 0) pe_int (fun _ _ => rfl)) pe_int (nomark _)) (pe_one (pe_cmpR (op_neD hu64) (pv 0) (pe_tup (pa_cons pe_int (pa_cons pe_int pa_nil))) (nomark _)))))))), ?_⟩
    obtain ⟨v, x, y, rfl, ⟨a, rfl, hS⟩, n0, k⟩ := h
    have hT := tyT hS
    -- not a tuple or ..
    refine ⟨_, rfl, _, _, _, _, true, rfl, .ty _, hT, kit_ty (by decide +kernel), _, rfl, ?_⟩
    refine ite_f rfl ⟨_, rfl, a, _, rfl, .inr hS, rfl, _, rfl, ?_⟩
    refine ite_f rfl ⟨_, rfl, a, _, _, _, rfl, rfl, hS, at2_0 _ _, _, "int", true, false, rfl, .base (.int _), by decide +kernel, by decide +kernel, _, rfl, ?_⟩
    refine ite_f rfl ⟨_, rfl, a, _, _, _, rfl, rfl, hS, at2_1 _ _, _, "int", true, false, rfl, .base (.int _), by decide +kernel, by decide +kernel, _, rfl, ?_⟩
    refine ite_f rfl ?_
    -- value[0] >= 0 and value[1] >= 0 and value != (0, 0)
    refine ⟨_, rfl, a, _, _, _, rfl, rfl, hS, at2_0 _ _, _, _, rfl, rfl, _, rfl, ?_⟩
    refine ite_t (decide_eq_true (by show (0 : Int) ≤ (x : Int); omega)) ⟨_, rfl, a, _, _, _, rfl, rfl, hS, at2_1 _ _, _, _, rfl, rfl, _, rfl, ?_⟩
    refine ite_t (decide_eq_true (by show (0 : Int) ≤ (y : Int); omega)) ⟨_, rfl, (by show 2 ≤ sizeLine; decide), fun p hp => ?_⟩
    have e := same_new (o := .tup [.int 0, .int 0]) hp
    have ne : PyData.eqv (.tuple [.int (x : Int), .int (y : Int)]) (.tuple [.int 0, .int 0]) = false := by
      simp [PyData.eqv, PyData.eqvAll]
      omega
    refine ⟨.tuple [.int (x : Int), .int (y : Int)], .tuple [.int 0, .int 0], .tup (seqT e hS) (.cons (.int _) (.cons (.int _) .nil)), .tup (SqT.of upd_same) (.cons (.int _) (.cons (.int _) .nil)), by rfl, by rfl, ?_⟩
    show Q (.bl (!PyData.eqv _ _)) _
    rw [ne]
    exact k _ e

/-! ### need_pair -/
def sp_need_pair (K : PySem.W.Frag) : Sp := fun vs H Q _ => ∃ (v : V) (x y : Nat), vs = [v] ∧ PairAt K H v x y ∧ ¬ (x = 0 ∧ y = 0) ∧ ∀ H', Same H H' → Q .non H'

theorem sc_need_pair : FnScope ["value"] ["value"] (defScope s_need_pair) := ⟨rfl, rfl, rfl, by decide +kernel, rfl, by decide +kernel, by decide +kernel⟩
theorem ok_need_pair (E : En K mg) (G_is_pair : Good P w K mg base CX0 2 "is_pair" ["value"] (sp_is_pair K)) : Good P w K mg base CX0 3 "need_pair" ["value"] (sp_need_pair K) := by
  obtain ⟨fd, F⟩ := E.says.def_ 3 (d := d_need_pair) rfl
  refine ⟨fd, ?_, F.bindsN fun _ _ _ _ _ _ us hl => match us, hl with | [_], _ => rfl, F.kp, E.gl "need_pair"⟩
  refine F.ok sc_need_pair (fun vs H Q E' h => ?_) (fun cdv A outer s H vs Q E' hr h => ?_)
  · obtain ⟨v, x, y, rfl, _⟩ := h; rfl
  · have hu64 := hu64_of hr
    refine ⟨_, PSs.nox (pss_one (ps_if (pt_not (pt_val (pe_G G_is_pair (hr.mono (by decide)) rfl pass0 (pa_cons (pv 0) pa_nil))))
        (pss_one ps_never)
        pss_nil)), ?_⟩
    obtain ⟨v, x, y, rfl, hP, n0, k⟩ := h
    refine ⟨_, rfl, v, x, y, rfl, hP, n0, fun H' e => ⟨true, rfl, ?_⟩⟩
    exact ite_f rfl (k H' e)

/-! ### divisor -/
def sp_divisor (K : PySem.W.Frag) : Sp := fun vs H Q _ => ∃ (v : V) (x y : Nat), vs = [v] ∧ PairAt K H v x y ∧ ¬ (x = 0 ∧ y = 0) ∧ ∀ H', Same H H' → Q (.int ((Nat.gcd x y : Nat) : Int)) H'

theorem sc_divisor : FnScope ["pair"] ["pair"] (defScope s_divisor) := ⟨rfl, rfl, rfl, by decide +kernel, rfl, by decide +kernel, by decide +kernel⟩
theorem ok_divisor (E : En K mg) (G_common_divisor : Good P w K mg base CX0 1 "common_divisor" ["one", "other"] (sp_common_divisor K)) (G_need_pair : Good P w K mg base CX0 3 "need_pair" ["value"] (sp_need_pair K)) : Good P w K mg base CX0 4 "divisor" ["pair"] (sp_divisor K) := by
  obtain ⟨fd, F⟩ := E.says.def_ 4 (d := d_divisor) rfl
  refine ⟨fd, ?_, F.bindsN fun _ _ _ _ _ _ us hl => match us, hl with | [_], _ => rfl, F.kp, E.gl "divisor"⟩
  refine F.ok sc_divisor (fun vs H Q E' h => ?_) (fun cdv A outer s H vs Q E' hr h => ?_)
  · obtain ⟨v, x, y, rfl, _⟩ := h; rfl
  · have hu64 := hu64_of hr
    refine ⟨_, PSs.nox (pss_cons (ps_expr (pe_G G_need_pair (hr.mono (by decide)) rfl pass0 (pa_cons (pv 0) pa_nil)))
      (pss_one (ps_ret (pe_G G_common_divisor (hr.mono (by decide)) rfl pass0 (pa_cons (pe_ix ix_tup (pv 0) pe_int (fun _ _ => rfl)) (pa_cons (pe_ix ix_tup (pv 0) pe_int (fun _ _ => rfl)) pa_nil)))))), ?_⟩
    obtain ⟨v, x, y, rfl, hP, n0, k⟩ := h
    refine ⟨_, rfl, v, x, y, rfl, hP, n0, fun H' e => ?_⟩
    obtain ⟨a, rfl, hS⟩ := hP
    refine ⟨_, rfl, a, _, _, _, rfl, rfl, seqT e hS, at2_0 _ _, _, rfl, a, _, _, _, rfl, rfl, seqT e hS, at2_1 _ _, x, y, rfl, k H' e⟩

/-! ### bottom -/
def sp_bottom (K : PySem.W.Frag) : Sp := fun vs H Q _ => ∃ (v : V) (x y : Nat), vs = [v] ∧ PairAt K H v x y ∧ ¬ (x = 0 ∧ y = 0) ∧ ∀ H', Same H H' → Q (.str (bot x y)) H'

theorem sc_bottom : FnScope ["pair"] ["pair"] (defScope s_bottom) := ⟨rfl, rfl, rfl, by decide +kernel, rfl, by decide +kernel, by decide +kernel⟩
theorem ok_bottom (E : En K mg) (G_need_pair : Good P w K mg base CX0 3 "need_pair" ["value"] (sp_need_pair K)) : Good P w K mg base CX0 4 "bottom" ["pair"] (sp_bottom K) := by
  obtain ⟨fd, F⟩ := E.says.def_ 5 (d := d_bottom) rfl
  refine ⟨fd, ?_, F.bindsN fun _ _ _ _ _ _ us hl => match us, hl with | [_], _ => rfl, F.kp, E.gl "bottom"⟩
  refine F.ok sc_bottom (fun vs H Q E' h => ?_) (fun cdv A outer s H vs Q E' hr h => ?_)
  · obtain ⟨v, x, y, rfl, _⟩ := h; rfl
  · have hu64 := hu64_of hr
    refine ⟨_, PSs.nox (pss_cons (ps_expr (pe_G G_need_pair (hr.mono (by decide)) rfl pass0 (pa_cons (pv 0) pa_nil)))
      (pss_cons (ps_if (pt_cmpR op_eq (pe_ix ix_tup (pv 0) pe_int (fun _ _ => rfl)) pe_int (nomark _))
        (pss_one (ps_ret pe_str))
        pss_nil)
      (pss_one (ps_ret (pe_ifExp (pt_cmpR op_eq (pe_ix ix_tup (pv 0) pe_int (fun _ _ => rfl)) pe_int (nomark _)) pe_str pe_str))))), ?_⟩
    obtain ⟨v, x, y, rfl, hP, n0, k⟩ := h
    refine ⟨_, rfl, v, x, y, rfl, hP, n0, fun H' e => ?_⟩
    obtain ⟨a, rfl, hS⟩ := hP
    refine ⟨_, rfl, a, _, _, _, rfl, rfl, seqT e hS, at2_1 _ _, rfl, _, rfl, ?_⟩
    have q := k H' e
    unfold bot at q
    by_cases hy : y = 0
    · rw [if_pos hy] at q
      exact ite_t (deq (by omega)) q
    · rw [if_neg hy] at q
      refine ite_f (dne (by omega)) ⟨_, rfl, a, _, _, _, rfl, rfl, seqT e hS, at2_0 _ _, rfl, _, rfl, ?_⟩
      by_cases hx : x = 0
      · rw [if_pos hx] at q
        exact ite_t (deq (by omega)) q
      · rw [if_neg hx] at q
        exact ite_f (dne (by omega)) q

/-! ### runs -/
def sp_runs (K : PySem.W.Frag) : Sp := fun vs H Q _ => ∃ (v : V) (x y : Nat), vs = [v] ∧ PairAt K H v x y ∧ okP x y ∧
  ∀ (f : Addr) (us : List V) (H' : Hp), H f = none → Same H H' → H' f = some (.lst us) → DpAll K H' us ((R x y).map runD) → Q (.ref f) H'

theorem sc_runs : FnScope ["pair", "x", "y", "found", "count"] ["pair"] (defScope s_runs) := ⟨rfl, rfl, rfl, by decide +kernel, rfl, by decide +kernel, by decide +kernel⟩
theorem ok_runs (E : En K mg) (G_need_pair : Good P w K mg base CX0 3 "need_pair" ["value"] (sp_need_pair K)) : Good P w K mg base CX0 4 "runs" ["pair"] (sp_runs K) := by
  obtain ⟨fd, F⟩ := E.says.def_ 6 (d := d_runs) rfl
  refine ⟨fd, ?_, F.bindsN fun _ _ _ _ _ _ us hl => match us, hl with | [_], _ => rfl, F.kp, E.gl "runs"⟩
  refine F.ok sc_runs (fun vs H Q E' h => ?_) (fun cdv A outer s H vs Q E' hr h => ?_)
  · obtain ⟨v, x, y, rfl, _⟩ := h; rfl
  · have hu64 := hu64_of hr
    refine ⟨_, PSs.nox (pss_cons (ps_expr (pe_G G_need_pair (hr.mono (by decide)) rfl pass0 (pa_cons (pv 0) pa_nil)))
      (pss_cons (ps_asg (pv 0) (pg_tup rfl (pgs_cons (pg_name (i := 1) sc_runs.nd rfl (by first | exact Or.inl rfl | exact Or.inr rfl)) (pgs_cons (pg_name (i := 2) sc_runs.nd rfl (by first | exact Or.inl rfl | exact Or.inr rfl)) pgs_nil))))
      (pss_cons (ps_set (i := 3) sc_runs.nd rfl (by first | exact Or.inl rfl | exact Or.inr rfl) (pe_lst pa_nil))
      (pss_cons (ps_while PassesOwn.never (PW.pt (pw_and (pt_cmpR op_ne (pv 1) (pv 2) (nomark _)) (pw_and (pt_cmpR op_gt (pv 1) pe_int (nomark _)) (pw_and1 (pt_cmpR op_gt (pv 2) pe_int (nomark _))))))
        (pss_one (ps_if (pt_cmpR op_gt (pv 1) (pv 2) (nomark _))
        (pss_cons (ps_set (i := 4) sc_runs.nd rfl (by first | exact Or.inl rfl | exact Or.inr rfl) (pe_op op_fdivW (pe_op op_sub (pv 1) pe_int) (pv 2)))
      (pss_cons (ps_expr (pe_bm PySem.F.plainAttrs_list PySem.F.slot_list_append PySem.F.type_list_append mt_append (pv 3) (pa_cons (pe_tup (pa_cons pe_str (pa_cons (pv 4) pa_nil))) pa_nil)))
      (pss_one (ps_set (i := 1) sc_runs.nd rfl (by first | exact Or.inl rfl | exact Or.inr rfl) (pe_op op_sub (pv 1) (pe_op op_mulW (pv 4) (pv 2)))))))
        (pss_cons (ps_set (i := 4) sc_runs.nd rfl (by first | exact Or.inl rfl | exact Or.inr rfl) (pe_op op_fdivW (pe_op op_sub (pv 2) pe_int) (pv 1)))
      (pss_cons (ps_expr (pe_bm PySem.F.plainAttrs_list PySem.F.slot_list_append PySem.F.type_list_append mt_append (pv 3) (pa_cons (pe_tup (pa_cons pe_str (pa_cons (pv 4) pa_nil))) pa_nil)))
      (pss_one (ps_set (i := 2) sc_runs.nd rfl (by first | exact Or.inl rfl | exact Or.inr rfl) (pe_op op_sub (pv 2) (pe_op op_mulW (pv 4) (pv 1))))))))))
      (pss_one (ps_ret (pv 3))))))), ?_⟩
    obtain ⟨v, x, y, rfl, hP, ok, k⟩ := h
    refine ⟨_, rfl, v, x, y, rfl, hP, ok.1, fun H1 e1 => ?_⟩
    obtain ⟨a, rfl, hS⟩ := hP
    refine ⟨_, rfl, a, _, rfl, seqT e1 hS, rfl, _, _, rfl, _, _, rfl, rfl, (by show 0 ≤ sizeLine; decide), fun f hf => ?_⟩
    have hf0 : H f = none := Same.free e1 hf
    refine ⟨fun m σ H' => ∃ (i j : Nat) (acc : List (Bool × Nat)) (us : List V) (c : Option V), m = i + j ∧ σ = [some (.ref a), some (.int (i : Int)), some (.int (j : Int)), some (.ref f), c] ∧ acc ++ R i j = R x y ∧ i < 2 ^ 4000 ∧ j < 2 ^ 4000 ∧ Same H H' ∧ H' f = some (.lst us) ∧ DpAll K H' us (acc.map runD),
      ⟨x + y, x, y, [], [], none, rfl, rfl, rfl, ok.2.1, ok.2.2, same_mut e1 hf0, upd_same, .nil⟩, ?_⟩
    rintro m σ H' ⟨i, j, acc, us, c, rfl, rfl, hR, hi, hj, e, hF, hD⟩
    have fin : R i j = [] → Q (.ref f) H' := fun z => by
      rw [z, List.append_nil] at hR
      rw [hR] at hD
      exact k f us H' hf0 e hF hD
    have hlen : us.length < sizeLine := by
      have h1 := DpAll.length hD
      rw [List.length_map] at h1
      have h2 := R_len' ok
      rw [← hR, List.length_append] at h2
      exact szl (by omega)
    -- the turn's end: a run more
    have more : ∀ (b : Bool) (n i' j' : Nat) (p : Addr), H' p = none → i' + j' < i + j → R i j = (b, n) :: R i' j' → i' < 2 ^ 4000 → j' < 2 ^ 4000 → ∀ c' : Option V,
        ∃ m', m' < i + j ∧ ∃ (i j : Nat) (acc : List (Bool × Nat)) (us' : List V) (c : Option V), m' = i + j ∧ [some (V.ref a), some (.int (i' : Int)), some (.int (j' : Int)), some (.ref f), c'] = [some (.ref a), some (.int (i : Int)), some (.int (j : Int)), some (.ref f), c] ∧ acc ++ R i j = R x y ∧ i < 2 ^ 4000 ∧ j < 2 ^ 4000 ∧ Same H (upd (upd H' p (.tup [.str (letS b), .int (n : Int)])) f (.lst (us ++ [.ref p]))) ∧ (upd (upd H' p (.tup [.str (letS b), .int (n : Int)])) f (.lst (us ++ [.ref p]))) f = some (.lst us') ∧ DpAll K (upd (upd H' p (.tup [.str (letS b), .int (n : Int)])) f (.lst (us ++ [.ref p]))) us' (acc.map runD) := fun b n i' j' p hp hm hr h1 h2 c' => by
      have nf : f ≠ p := ne_of_none hF hp
      have hF2 : (upd H' p (.tup [.str (letS b), .int (n : Int)])) f = some (.lst us) := by rw [upd_ne nf]; exact hF
      have t1 : SameT H' (upd (upd H' p (.tup [.str (letS b), .int (n : Int)])) f (.lst (us ++ [.ref p]))) := (SameT.new hp).trans (.put hF2)
      refine ⟨i' + j', hm, i', j', acc ++ [(b, n)], us ++ [.ref p], c', rfl, rfl, ?_, h1, h2, same_mut (e.trans (same_new hp)) hf0, upd_same, ?_⟩
      · rw [List.append_assoc, ← hR, hr]
        rfl
      · rw [List.map_append]
        refine DpAll.append (Dp.sameTs t1 (noLs_map noL_runD acc) hD) (DpAll.one (.tup (SqT.of ?_) (.cons (.str _) (.cons (.int _) .nil))))
        rw [upd_ne nf.symm, upd_same]
    -- while x != y and x > 0 and y > 0
    refine ⟨_, rfl, _, rfl, rfl, _, rfl, ?_⟩
    by_cases c1 : i = j
    · refine ite_f (by rw [deq (by omega)]; rfl) (ite_f rfl ⟨_, rfl, fin (R_nil (by omega))⟩)
    refine ite_t (by rw [dne (by omega)]; rfl) ⟨_, rfl, _, _, rfl, rfl, _, rfl, ?_⟩
    by_cases c2 : 0 < i
    rotate_left
    · exact ite_f (decide_eq_false (by omega)) (ite_f rfl ⟨_, rfl, fin (R_nil (by omega))⟩)
    refine ite_t (decide_eq_true (by omega)) ⟨_, rfl, _, _, rfl, rfl, _, rfl, ?_⟩
    by_cases c3 : 0 < j
    rotate_left
    · exact ite_f (decide_eq_false (by omega)) ⟨_, rfl, fin (R_nil (by omega))⟩
    refine ite_t (decide_eq_true (by omega)) ⟨fun σ' H'' => ∃ m', m' < i + j ∧ ∃ (i j : Nat) (acc : List (Bool × Nat)) (us : List V) (c : Option V), m' = i + j ∧ σ' = [some (.ref a), some (.int (i : Int)), some (.int (j : Int)), some (.ref f), c] ∧ acc ++ R i j = R x y ∧ i < 2 ^ 4000 ∧ j < 2 ^ 4000 ∧ Same H H'' ∧ H'' f = some (.lst us) ∧ DpAll K H'' us (acc.map runD), fun _ _ q => q, ?_⟩
    -- if x > y
    refine ⟨_, rfl, _, rfl, _, _, rfl, rfl, _, rfl, ?_⟩
    refine ite2 (fun c4 => ?_) (fun c4 => ?_)
    · have c5 : i > j := by
        have q : (j : Int) < (i : Int) := of_decide_eq_true c4
        omega
      have d := dm_lt c3 c5
      have hq : (i - 1) / j < 2 ^ 4000 := Nat.lt_of_le_of_lt (Nat.le_trans (Nat.div_le_self _ _) (Nat.sub_le _ _)) hi
      refine ⟨_, rfl, _, _, rfl, rfl, _, rfl, _, _, rfl, rfl, okDiv c3 hj, ?_⟩
      dsimp only; rw [cast_div c2]
      refine ⟨_, rfl, .inl ⟨rfl, _, SqL.of hF⟩, _, rfl, (by show 2 ≤ sizeLine; decide), fun p hp => ?_⟩
      have nf : f ≠ p := ne_of_none hF hp
      refine ⟨f, us, .ref p, rfl, rfl, (by rw [upd_ne nf]; exact hF), hlen, ?_⟩
      refine ⟨_, rfl, _, rfl, _, rfl, _, _, rfl, rfl, okMul hq hj, _, _, rfl, rfl, ?_⟩
      dsimp only; rw [cast_sub]
      exact more true ((i - 1) / j) _ j p hp (by omega) (R_x c3 c5) (Nat.lt_trans d.1 hi) hj _
    · have c5 : j > i := by
        have q : ¬ (j : Int) < (i : Int) := of_decide_eq_false (Bool.eq_false_iff.mpr c4)
        omega
      have d := dm_lt c2 c5
      have hq : (j - 1) / i < 2 ^ 4000 := Nat.lt_of_le_of_lt (Nat.le_trans (Nat.div_le_self _ _) (Nat.sub_le _ _)) hj
      refine ⟨_, rfl, _, _, rfl, rfl, _, rfl, _, _, rfl, rfl, okDiv c2 hi, ?_⟩
      dsimp only; rw [cast_div c3]
      refine ⟨_, rfl, .inl ⟨rfl, _, SqL.of hF⟩, _, rfl, (by show 2 ≤ sizeLine; decide), fun p hp => ?_⟩
      have nf : f ≠ p := ne_of_none hF hp
      refine ⟨f, us, .ref p, rfl, rfl, (by rw [upd_ne nf]; exact hF), hlen, ?_⟩
      refine ⟨_, rfl, _, rfl, _, rfl, _, _, rfl, rfl, okMul hq hi, _, _, rfl, rfl, ?_⟩
      dsimp only; rw [cast_sub]
      exact more false ((j - 1) / i) i _ p hp (by omega) (R_y c2 c5) hi (Nat.lt_trans d.1 hj) _

/-! ### comes_before -/
/-- the order of two pairs -/
def sp_comes_before (K : PySem.W.Frag) : Sp := fun vs H Q _ => ∃ (v1 v2 : V) (x y u w : Nat), vs = [v1, v2] ∧ PairAt K H v1 x y ∧ PairAt K H v2 u w ∧ okP x y ∧ okP u w ∧ ∀ H', Same H H' → Q (.bl (cbP x y u w)) H'
theorem sum_cnt : ∀ l : List (Bool × Nat), (l.map fun r => ((r.2 : Nat) : Int)).sum = ((cnt l : Nat) : Int)
  | [] => rfl
  | r :: l => by rw [List.map_cons, List.sum_cons, sum_cnt l, cnt_cons', Int.natCast_add]
theorem bot_at (x y : Nat) : ([("even" : Str), "flat", "steep"] : List Str)[botI x y]? = some (bot x y) ∧ ∀ m, m < botI x y → ([("even" : Str), "flat", "steep"] : List Str)[m]? ≠ some (bot x y) := by
  unfold botI bot
  by_cases hy : y = 0
  · rw [if_pos hy, if_pos hy]
    exact ⟨rfl, fun m hm => by match m, hm with | 0, _ => decide +kernel⟩
  · rw [if_neg hy, if_neg hy]
    by_cases hx : x = 0
    · rw [if_pos hx, if_pos hx]
      exact ⟨rfl, fun m hm => by match m, hm with | 0, _ => decide +kernel | 1, _ => decide +kernel⟩
    · rw [if_neg hx, if_neg hx]
      exact ⟨rfl, fun m hm => absurd hm (Nat.not_lt_zero m)⟩
theorem alike_tail (x y u w : Nat) : PySem.W.alike (tailD x y) (tailD u w) = true := rfl
theorem cbL_step {l r : List (Bool × Nat)} : ∀ {i : Nat} {a b : Bool × Nat}, (l.take i).map Prod.fst = (l.take i).map Prod.fst → l[i]? = some a → r[i]? = some b → cbL (l.drop i) (r.drop i) = if a.1 ≠ b.1 then some a.1 else if a.2 ≠ b.2 then some (decide (a.1 = true) == decide (a.2 > b.2)) else cbL (l.drop (i + 1)) (r.drop (i + 1)) := fun {i a b} _ ha hb => by
  obtain ⟨h1, h2⟩ := List.getElem?_eq_some_iff.mp ha
  obtain ⟨h3, h4⟩ := List.getElem?_eq_some_iff.mp hb
  rw [List.drop_eq_getElem_cons h1, List.drop_eq_getElem_cons h3, h2, h4]
  rfl
theorem cbL_end {l r : List (Bool × Nat)} {n : Nat} (h : n = min l.length r.length) : cbL (l.drop n) (r.drop n) = none := by
  rcases Nat.le_total l.length r.length with c | c
  · rw [List.drop_eq_nil_of_le (by omega)]
    cases r.drop n <;> rfl
  · rw [List.drop_eq_nil_of_le (as := r) (by omega)]
    cases l.drop n <;> rfl

theorem sc_comes_before : FnScope ["one", "other", "left", "right", "first", "last", "letter", "count", "sign", "many"] ["one", "other"] (defScope s_comes_before) := ⟨rfl, rfl, rfl, by decide +kernel, rfl, by decide +kernel, by decide +kernel⟩
theorem ok_comes_before (E : En K mg) (G_divisor : Good P w K mg base CX0 4 "divisor" ["pair"] (sp_divisor K)) (G_bottom : Good P w K mg base CX0 4 "bottom" ["pair"] (sp_bottom K)) (G_runs : Good P w K mg base CX0 4 "runs" ["pair"] (sp_runs K)) : GoodD P w K mg base CX0 5 d_comes_before "comes_before" ["one", "other"] (sp_comes_before K) := by
  obtain ⟨fd, F⟩ := E.says.def_ 7 (d := d_comes_before) rfl
  refine ⟨fd, ?_, F.bindsN fun _ _ _ _ _ _ us hl => match us, hl with | [_, _], _ => rfl, F.kp, E.gl "comes_before", F⟩
  refine F.ok sc_comes_before (fun vs H Q E' h => ?_) (fun cdv A outer s H vs Q E' hr h => ?_)
  · obtain ⟨v1, v2, x, y, u, w, rfl, _⟩ := h; rfl
  · have hu64 := hu64_of hr
    refine ⟨_, PSs.nox (pss_cons (ps_par (i := 2) (j := 3) rfl sc_comes_before.nd rfl rfl (by decide) rfl rfl (pa_cons (pe_revL (pe_G G_runs (hr.mono (by decide)) rfl pass0 (pa_cons (pv 0) pa_nil))) (pa_cons (pe_revL (pe_G G_runs (hr.mono (by decide)) rfl pass0 (pa_cons (pv 1) pa_nil))) pa_nil)) rfl)
      (pss_cons (ps_par (i := 4) (j := 5) rfl sc_comes_before.nd rfl rfl (by decide) rfl rfl (pa_cons (pe_callB (cr_sum rfl) (by rfl) (E.fr "sum") (by decide +kernel) (pa_cons (pe_lc (own := [("letter", 6), ("count", 7)]) (by rfl) sc_comes_before.nd (pi_list (pv 2)) (blkOk_by (N := ["one", "other", "left", "right", "first", "last", "letter", "count", "sign", "many"]) (sc := defScope s_comes_before) (by decide +kernel)) (by exact fun _ _ _ _ _ => (show PG _ _ (gTup K 2 _) from pg_tup (n := 2) rfl (pgs_cons (pg_name (i := 6) sc_comes_before.nd rfl (by first | exact Or.inl rfl | exact Or.inr rfl)) (pgs_cons (pg_name (i := 7) sc_comes_before.nd rfl (by first | exact Or.inl rfl | exact Or.inr rfl)) pgs_nil)))) (by exact fun _ _ _ _ _ => pts_nil) (by exact fun _ _ _ _ _ => (pv 7))) pa_nil)) (pa_cons (pe_callB (cr_sum rfl) (by rfl) (E.fr "sum") (by decide +kernel) (pa_cons (pe_lc (own := [("letter", 6), ("count", 7)]) (by rfl) sc_comes_before.nd (pi_list (pv 3)) (blkOk_by (N := ["one", "other", "left", "right", "first", "last", "letter", "count", "sign", "many"]) (sc := defScope s_comes_before) (by decide +kernel)) (by exact fun _ _ _ _ _ => (show PG _ _ (gTup K 2 _) from pg_tup (n := 2) rfl (pgs_cons (pg_name (i := 6) sc_comes_before.nd rfl (by first | exact Or.inl rfl | exact Or.inr rfl)) (pgs_cons (pg_name (i := 7) sc_comes_before.nd rfl (by first | exact Or.inl rfl | exact Or.inr rfl)) pgs_nil)))) (by exact fun _ _ _ _ _ => pts_nil) (by exact fun _ _ _ _ _ => (pv 7))) pa_nil)) pa_nil)) rfl)
      (pss_cons (ps_if (pt_cmpR op_ne (pv 4) (pv 5) (nomark _))
        (pss_one (ps_ret (pe_cmpR op_lt (pv 4) (pv 5) (nomark _))))
        pss_nil)
      (pss_cons (ps_for PassesOwn.never rfl (RZ.pi_zipA (by rfl) (E.fr "zip") (pa_cons (pv 2) (pa_cons (pv 3) pa_nil))) (pg_tup rfl (pgs_cons (pg_tup rfl (pgs_cons (pg_name (i := 6) sc_comes_before.nd rfl (by first | exact Or.inl rfl | exact Or.inr rfl)) (pgs_cons (pg_name (i := 7) sc_comes_before.nd rfl (by first | exact Or.inl rfl | exact Or.inr rfl)) pgs_nil))) (pgs_cons (pg_tup rfl (pgs_cons (pg_name (i := 8) sc_comes_before.nd rfl (by first | exact Or.inl rfl | exact Or.inr rfl)) (pgs_cons (pg_name (i := 9) sc_comes_before.nd rfl (by first | exact Or.inl rfl | exact Or.inr rfl)) pgs_nil))) pgs_nil)))
        (pss_cons (ps_if (pt_cmpR op_ne (pv 6) (pv 8) (nomark _))
        (pss_one (ps_ret (pe_cmpR op_lt_str (pv 6) (pv 8) (nomark _))))
        pss_nil)
      (pss_one (ps_if (pt_cmpR op_ne (pv 7) (pv 9) (nomark _))
        (pss_one (ps_ret (pe_cmpR op_eq (pe_cmpR op_eq (pv 6) pe_str (nomark _)) (pe_cmpR op_gt (pv 7) (pv 9) (nomark _)) (nomark _))))
        pss_nil))))
      (pss_one (ps_ret (pe_cmpR (op_ltD hu64) (pe_tup (pa_cons (pe_bm PySem.F.plainAttrs_tuple PySem.F.slot_tuple_index PySem.F.type_tuple_index mt_tup_index (pe_glob rfl (E.gl "BOTTOMS") (show RelV (V.ref (He.ga K "BOTTOMS")) _ from rfl)) (pa_cons (pe_G G_bottom (hr.mono (by decide)) rfl pass0 (pa_cons (pv 0) pa_nil)) pa_nil)) (pa_cons (pe_G G_divisor (hr.mono (by decide)) rfl pass0 (pa_cons (pv 0) pa_nil)) pa_nil))) (pe_tup (pa_cons (pe_bm PySem.F.plainAttrs_tuple PySem.F.slot_tuple_index PySem.F.type_tuple_index mt_tup_index (pe_glob rfl (E.gl "BOTTOMS") (show RelV (V.ref (He.ga K "BOTTOMS")) _ from rfl)) (pa_cons (pe_G G_bottom (hr.mono (by decide)) rfl pass0 (pa_cons (pv 1) pa_nil)) pa_nil)) (pa_cons (pe_G G_divisor (hr.mono (by decide)) rfl pass0 (pa_cons (pv 1) pa_nil)) pa_nil))) (nomark _)))))))), ?_⟩
    obtain ⟨v1, v2, x, y, u, w, rfl, h1, h2, ok1, ok2, k⟩ := h
    have s2 : 2 ≤ sizeLine := by decide
    have r1 := R_len' ok1
    have r2 := R_len' ok2
    refine ⟨_, rfl, v1, x, y, rfl, h1, ok1, fun f1 us1 H1 hf1 e1 hF1 hD1 => ⟨f1, us1, rfl, SqL.of hF1, fun l hl => ?_⟩⟩
    have e2 := e1.trans (same_new (o := .lst us1.reverse) hl)
    refine ⟨_, rfl, v2, u, w, rfl, h2.same e2, ok2, fun f2 us2 H3 hf2 e3 hF2 hD2 => ⟨f2, us2, rfl, SqL.of hF2, fun r hr' => ⟨_, _, rfl, ?_⟩⟩⟩
    have e4 := e3.trans (same_new (o := .lst us2.reverse) hr')
    have e04 := e2.trans e4
    have hL : (upd H3 r (.lst us2.reverse)) l = some (.lst us1.reverse) := e4 _ _ upd_same
    have hRr : (upd H3 r (.lst us2.reverse)) r = some (.lst us2.reverse) := upd_same
    have dL : DpAll K (upd H3 r (.lst us2.reverse)) us1.reverse ((R x y).reverse.map runD) := by
      rw [List.map_reverse]
      exact DpAll.rev' (Dp.sameAll ((same_new hl).trans e4) hD1)
    have dR : DpAll K (upd H3 r (.lst us2.reverse)) us2.reverse ((R u w).reverse.map runD) := by
      rw [List.map_reverse]
      exact DpAll.rev' (Dp.sameAll (same_new hr') hD2)
    generalize upd H3 r (.lst us2.reverse) = H4 at *
    have kP : cbP x y u w = if cnt (R x y).reverse ≠ cnt (R u w).reverse then decide (cnt (R x y).reverse < cnt (R u w).reverse) else match cbL (R x y).reverse (R u w).reverse with | some b => b | none => PySem.W.dataLt (tailD x y) (tailD u w) := rfl
    have lL : (R x y).reverse.length ≤ 8000 := by rw [List.length_reverse]; exact r1
    have lR : (R u w).reverse.length ≤ 8000 := by rw [List.length_reverse]; exact r2
    generalize (R x y).reverse = A' at *
    generalize (R u w).reverse = B' at *
    generalize us1.reverse = us at *
    generalize us2.reverse = ws at *
    have llus := DpAll.length dL
    rw [List.length_map] at llus
    have llws := DpAll.length dR
    rw [List.length_map] at llws
    -- the sums
    refine ⟨_, rfl, l, rfl, ⟨_, SqL.of hL⟩, fun D hD0 => ?_⟩
    refine lc_list (K := K) (a := l) (xs := us) (fun i H' => Same H4 H' ∧ H' D = some (.lst ((A'.take i).map fun r => V.int ((r.2 : Nat) : Int)))) ⟨same_new hD0, upd_same⟩ (fun i H' _ z => SqL.of (z.1 _ _ hL)) ?_ ?_
    · rintro i z H5 hz ⟨e5, g1⟩
      obtain ⟨c, n, pz, hr2, rfl, hpz⟩ := run_get (Dp.sameAll e5 dL) hz
      have hi : i < A'.length := (List.getElem?_eq_some_iff.mp hr2).1
      refine ⟨pz, _, rfl, hpz, rfl, _, _, rfl, _, _, rfl, rfl, rfl, _, rfl, _, g1, ?_, same_mut e5 hD0, ?_⟩
      · rw [List.length_map, List.length_take]
        exact szl (by omega)
      · rw [upd_same, List.take_add_one, hr2, List.map_append]
        rfl
    rintro H5 ⟨e5, g1⟩
    rw [llus, List.take_length] at g1
    refine ⟨D, A'.map fun r => ((r.2 : Nat) : Int), rfl, SqL.of (by rw [List.map_map]; exact g1), ?_⟩
    rw [sum_cnt]
    have hR5 := e5 _ _ hRr
    have dR5 := Dp.sameAll e5 dR
    refine ⟨_, rfl, r, rfl, ⟨_, SqL.of hR5⟩, fun D2 hD2' => ?_⟩
    refine lc_list (K := K) (a := r) (xs := ws) (fun i H' => Same H5 H' ∧ H' D2 = some (.lst ((B'.take i).map fun r => V.int ((r.2 : Nat) : Int)))) ⟨same_new hD2', upd_same⟩ (fun i H' _ z => SqL.of (z.1 _ _ hR5)) ?_ ?_
    · rintro i z H6 hz ⟨e6, g1⟩
      obtain ⟨c, n, pz, hr2, rfl, hpz⟩ := run_get (Dp.sameAll e6 dR5) hz
      have hi : i < B'.length := (List.getElem?_eq_some_iff.mp hr2).1
      refine ⟨pz, _, rfl, hpz, rfl, _, _, rfl, _, _, rfl, rfl, rfl, _, rfl, _, g1, ?_, same_mut e6 hD2', ?_⟩
      · rw [List.length_map, List.length_take]
        exact szl (by omega)
      · rw [upd_same, List.take_add_one, hr2, List.map_append]
        rfl
    rintro H6 ⟨e6, g2⟩
    rw [llws, List.take_length] at g2
    refine ⟨D2, B'.map fun r => ((r.2 : Nat) : Int), rfl, SqL.of (by rw [List.map_map]; exact g2), ?_⟩
    rw [sum_cnt]
    refine ⟨_, _, rfl, ?_⟩
    have e46 := e5.trans e6
    have e06 := e04.trans e46
    have hL6 := e46 _ _ hL
    have hR6 := e6 _ _ hR5
    have dL6 := Dp.sameAll e46 dL
    have dR6 := Dp.sameAll e6 dR5
    -- if first != last
    refine ⟨_, rfl, _, rfl, rfl, _, rfl, ?_⟩
    by_cases hc : cnt A' = cnt B'
    rotate_left
    · refine ite_t (by rw [dne (by omega)]; rfl) ?_
      refine ⟨_, rfl, _, rfl, _, _, rfl, rfl, ?_⟩
      have z := k _ e06
      rw [kP, if_pos hc] at z
      have e : decide ((cnt A' : Int) < (cnt B' : Int)) = decide (cnt A' < cnt B') := decide_eq_decide.mpr (by omega)
      show Q (.bl (decide ((cnt A' : Int) < (cnt B' : Int)))) _
      rw [e]
      exact z
    refine ite_f (by rw [deq (by omega)]; rfl) ?_
    rw [if_neg (fun z => z hc)] at kP
    -- for (letter, count), (sign, many) in zip(left, right)
    refine ⟨_, rfl, _, rfl, l, r, us, ws, rfl, .inl ⟨SqL.of hL6, SqL.of hR6, ?_⟩⟩
    refine for_it (walk_zip rfl) (fun i σ H' => ∃ s6 s7 s8 s9 : Option V, σ = [some v1, some v2, some (.ref l), some (.ref r), some (.int ((cnt A' : Nat) : Int)), some (.int ((cnt B' : Nat) : Int)), s6, s7, s8, s9] ∧ Same H6 H' ∧ cbL A' B' = cbL (A'.drop i) (B'.drop i)) ⟨_, _, _, _, rfl, Same.refl _, rfl⟩ (fun i σ H' _ ⟨_, _, _, _, _, e, _⟩ => ⟨SqL.of (e _ _ hL6), SqL.of (e _ _ hR6)⟩) ?_ ?_
    · rintro i z σ H7 H8 hi ⟨_, _, _, _, rfl, e7, hcb⟩ ⟨T, z1, z2, rfl, hT, rfl, q1, q2⟩
      have e8 := e7.trans (same_new (o := .tup [z1, z2]) hT)
      obtain ⟨c, n, pz1, w1, rfl, t1⟩ := run_get (Dp.sameAll e8 dL6) q1
      obtain ⟨d, m, pz2, w2, rfl, t2⟩ := run_get (Dp.sameAll e8 dR6) q2
      have hst := cbL_step rfl w1 w2
      rw [← hcb] at hst
      refine ⟨T, _, rfl, SqT.of upd_same, rfl, _, _, rfl, pz1, _, rfl, t1, rfl, _, _, rfl, _, _, rfl, rfl, _, _, rfl, pz2, _, rfl, t2, rfl, _, _, rfl, _, _, rfl, rfl, rfl, ?_⟩
      have kQ := k _ (e06.trans e8)
      refine ⟨_, rfl, _, rfl, rfl, _, rfl, ?_⟩
      by_cases c1 : c = d
      rotate_left
      · refine ite_t (by show (!decide (V.str (letS c) = V.str (letS d))) = true; rw [letS_inj c1]; rfl) ?_
        rw [if_pos c1] at hst
        rw [hst] at kP
        rw [kP] at kQ
        refine ⟨_, rfl, _, rfl, _, _, rfl, rfl, ?_⟩
        have e : decide ((letS c).cps.toList < (letS d).cps.toList) = c := by
          cases c <;> cases d
          · exact absurd rfl c1
          · decide +kernel
          · decide +kernel
          · exact absurd rfl c1
        show Q (.bl (decide ((letS c).cps.toList < (letS d).cps.toList))) _
        rw [e]
        exact kQ
      subst c1
      refine ite_f (by show (!decide (V.str (letS c) = V.str (letS c))) = false; rw [decide_eq_true rfl]; rfl) ?_
      rw [if_neg (fun z => z rfl)] at hst
      refine ⟨_, rfl, _, rfl, rfl, _, rfl, ?_⟩
      by_cases c2 : n = m
      rotate_left
      · refine ite_t (by rw [dne (by omega)]; rfl) ?_
        rw [if_pos c2] at hst
        rw [hst] at kP
        rw [kP] at kQ
        refine ⟨_, rfl, rfl, _, rfl, _, rfl, _, _, rfl, rfl, rfl, ?_⟩
        have e : decide (V.bl (decide (V.str (letS c) = V.str "X")) = V.bl (decide ((n : Int) > (m : Int)))) = (decide (c = true) == decide (n > m)) := by
          have e1 : decide (V.str (letS c) = V.str "X") = decide (c = true) := by cases c <;> decide +kernel
          have e2 : decide ((n : Int) > (m : Int)) = decide (n > m) := decide_eq_decide.mpr (by omega)
          rw [e1, e2]
          cases decide (c = true) <;> cases decide (n > m) <;> decide +kernel
        show Q (.bl (decide (V.bl (decide (V.str (letS c) = V.str "X")) = V.bl (decide ((n : Int) > (m : Int)))))) _
        rw [e]
        exact kQ
      · refine ite_f (by rw [deq (by omega)]; rfl) ?_
        rw [if_neg (fun z => z c2)] at hst
        exact ⟨_, _, _, _, rfl, e8, hst⟩
    · rintro σ H7 ⟨_, _, _, _, rfl, e7, hcb⟩
      rw [cbL_end (by rw [llus, llws])] at hcb
      rw [hcb] at kP
      have e07 := e06.trans e7
      refine ⟨ty_BOTTOMS E _, _, rfl, v1, x, y, rfl, h1.same e07, ok1.1, fun H8 e8 => ⟨_, [("even" : Str), "flat", "steep"], _, botI x y, rfl, rfl, at_BOTTOMS E _, (bot_at x y).1, (bot_at x y).2, ?_⟩⟩
      refine ⟨_, rfl, v1, x, y, rfl, (h1.same e07).same e8, ok1.1, fun H9 e9 => ⟨s2, fun t1 ht1 => ?_⟩⟩
      have f1 := same_new (o := .tup [.int ((botI x y : Nat) : Int), .int ((Nat.gcd x y : Nat) : Int)]) ht1
      have e09 := e07.trans (e8.trans (e9.trans f1))
      refine ⟨ty_BOTTOMS E _, _, rfl, v2, u, w, rfl, h2.same e09, ok2.1, fun H10 e10 => ⟨_, [("even" : Str), "flat", "steep"], _, botI u w, rfl, rfl, at_BOTTOMS E _, (bot_at u w).1, (bot_at u w).2, ?_⟩⟩
      refine ⟨_, rfl, v2, u, w, rfl, (h2.same e09).same e10, ok2.1, fun H11 e11 => ⟨s2, fun t2 ht2 => ?_⟩⟩
      have f2 := same_new (o := .tup [.int ((botI u w : Nat) : Int), .int ((Nat.gcd u w : Nat) : Int)]) ht2
      have g := (e10.trans (e11.trans f2))
      have kQ := k _ (e09.trans g)
      rw [kP] at kQ
      exact ⟨tailD x y, tailD u w, .tup (SqT.of (g _ _ upd_same)) (.cons (.int _) (.cons (.int _) .nil)), .tup (SqT.of upd_same) (.cons (.int _) (.cons (.int _) .nil)), alike_tail x y u w, (fun z => by cases z), (by show 1 ≤ 60; decide), kQ⟩

/-! ### _law_same -/
/-- no list or tuple is long -/
abbrev small : PyData → Bool := smallD
/-- two values of the same data -/
def spSame (n : Nat) (K : PySem.W.Frag) : Sp := fun vs H Q _ => ∃ (u v : V) (d : PyData), vs = [u, v] ∧ Dp K H u d ∧ Dp K H v d ∧ d.depth < n ∧ small d = true ∧ ∀ H', Same H H' → Q (.bl true) H'
def sp__law_same (K : PySem.W.Frag) : Sp := spSame 12 K

theorem sc__law_same : FnScope ["found", "due", "a", "b"] ["found", "due"] (defScope s__law_same) := ⟨rfl, rfl, rfl, by decide +kernel, rfl, by decide +kernel, by decide +kernel⟩
/-- lists within are short -/
theorem depth_get : ∀ {ds : List PyData} {i : Nat} {d : PyData}, ds[i]? = some d → d.depth ≤ PyData.depthAll ds
  | [], _, _, h => by cases h
  | _ :: _, 0, _, h => by
    cases h
    rw [PyData.depthAll]
    exact Nat.le_max_left _ _
  | _ :: ds, i + 1, _, h => by
    rw [PyData.depthAll]
    exact Nat.le_trans (depth_get (ds := ds) (i := i) (by simpa using h)) (Nat.le_max_right _ _)
theorem walk_zipT {K : PySem.W.Frag} {a b : Addr} {xs ys : List V} {n : Nat} (hn : n = min xs.length ys.length) : Walk (RZ.ItzT K a b) n (fun H => SqT K H a xs ∧ SqT K H b ys) (YPair (fun i => xs[i]?) (fun i => ys[i]?)) := by
  subst hn
  refine ⟨fun i _ hi q => ?_, fun _ q => ⟨xs, ys, q.1, q.2, by omega⟩, fun i H v H' _ q y => ?_⟩
  · have h1 : i < xs.length := by omega
    have h2 : i < ys.length := by omega
    exact ⟨xs, ys, xs[i], ys[i], q.1, q.2, by simp [h1], by simp [h2]⟩
  · obtain ⟨T, x, z, h1, h2, h3, h4, h5⟩ := y
    exact ⟨T, x, z, h1, h2, h3, h4 xs q.1, h5 ys q.2⟩
theorem same_step {n : Nat} (E : En K mg) (G__law_same : Good P w K mg base CX0 n "_law_same" ["found", "due"] (spSame n K)) : Good P w K mg base CX0 (n + 1) "_law_same" ["found", "due"] (spSame (n + 1) K) := by
  obtain ⟨fd, F⟩ := E.says.def_ 8 (d := d__law_same) rfl
  refine ⟨fd, ?_, F.bindsN fun _ _ _ _ _ _ us hl => match us, hl with | [_, _], _ => rfl, F.kp, E.gl "_law_same"⟩
  refine F.ok sc__law_same (fun vs H Q E' h => ?_) (fun cdv A outer s H vs Q E' hr h => ?_)
  · obtain ⟨u, v, d, rfl, _⟩ := h; rfl
  refine ⟨_, PSs.nox (pss_cons (ps_if (PW.pt (pw_or (pt_val (pe_callB call_isi (by rfl) (E.fr "isinstance") (by decide +kernel) (pa_cons (pv 1) (pa_cons (pe_bltn (v := .ty "list") (by rfl) (E.fr "list") (by decide +kernel) rfl) pa_nil)))) (pw_or1 (pt_val (pe_callB call_isi (by rfl) (E.fr "isinstance") (by decide +kernel) (pa_cons (pv 1) (pa_cons (pe_bltn (v := .ty "tuple") (by rfl) (E.fr "tuple") (by decide +kernel) rfl) pa_nil)))))))
        (pss_cons (ps_if (PW.pt (pw_or (pt_cmpR op_ne (pe_callB call_isi (by rfl) (E.fr "isinstance") (by decide +kernel) (pa_cons (pv 0) (pa_cons (pe_bltn (v := .ty "list") (by rfl) (E.fr "list") (by decide +kernel) rfl) pa_nil))) (pe_callB call_isi (by rfl) (E.fr "isinstance") (by decide +kernel) (pa_cons (pv 1) (pa_cons (pe_bltn (v := .ty "list") (by rfl) (E.fr "list") (by decide +kernel) rfl) pa_nil))) (nomark _)) (pw_or1 (pt_cmpR op_ne (pe_callB call_isi (by rfl) (E.fr "isinstance") (by decide +kernel) (pa_cons (pv 0) (pa_cons (pe_bltn (v := .ty "tuple") (by rfl) (E.fr "tuple") (by decide +kernel) rfl) pa_nil))) (pe_callB call_isi (by rfl) (E.fr "isinstance") (by decide +kernel) (pa_cons (pv 1) (pa_cons (pe_bltn (v := .ty "tuple") (by rfl) (E.fr "tuple") (by decide +kernel) rfl) pa_nil))) (nomark _)))))
        (pss_one (ps_ret pe_bl))
        pss_nil)
      (pss_one (ps_ret (pe_and (pe_cmpR op_eq (pe_callB call_len_seq (by rfl) (E.fr "len") (by decide +kernel) (pa_cons (pv 0) pa_nil)) (pe_callB call_len_seq (by rfl) (E.fr "len") (by decide +kernel) (pa_cons (pv 1) pa_nil)) (nomark _)) (pe_one (pe_callB (show CallR _ _ (rAll K) from cr_all rfl) (by rfl) (E.fr "all") (by decide +kernel) (pa_cons (pe_lc (own := [("a", 2), ("b", 3)]) (by rfl) sc__law_same.nd (RZ.pi_zipA (by rfl) (E.fr "zip") (pa_cons (pv 0) (pa_cons (pv 1) pa_nil))) (blkOk_by (N := ["found", "due", "a", "b"]) (sc := defScope s__law_same) (by decide +kernel)) (by exact fun _ _ _ _ _ => (show PG _ _ (gTup K 2 _) from pg_tup (n := 2) rfl (pgs_cons (pg_name (i := 2) sc__law_same.nd rfl (by first | exact Or.inl rfl | exact Or.inr rfl)) (pgs_cons (pg_name (i := 3) sc__law_same.nd rfl (by first | exact Or.inl rfl | exact Or.inr rfl)) pgs_nil)))) (by exact fun _ _ _ _ _ => pts_nil) (by exact fun _ _ _ _ _ => (pe_G G__law_same hr rfl pass0 (pa_cons (pv 2) (pa_cons (pv 3) pa_nil))))) pa_nil)))))))
        pss_nil)
      (pss_cons (ps_if (PW.pt (pw_or (pt_cmpR op_isN (pv 1) pe_non (nomark _)) (pw_or1 (pt_cmpR op_isN (pv 0) pe_non (nomark _)))))
        (pss_one (ps_ret (pe_and (pe_cmpR op_isN (pv 1) pe_non (nomark _)) (pe_one (pe_cmpR op_isN (pv 0) pe_non (nomark _))))))
        pss_nil)
      (pss_cons (ps_if (PW.pt (pw_or (pt_cmpR op_ne (pe_callB call_isi (by rfl) (E.fr "isinstance") (by decide +kernel) (pa_cons (pv 0) (pa_cons (pe_bltn (v := .ty "bool") (by rfl) (E.fr "bool") (by decide +kernel) rfl) pa_nil))) (pe_callB call_isi (by rfl) (E.fr "isinstance") (by decide +kernel) (pa_cons (pv 1) (pa_cons (pe_bltn (v := .ty "bool") (by rfl) (E.fr "bool") (by decide +kernel) rfl) pa_nil))) (nomark _)) (pw_or1 (pt_cmpR op_ne (pe_callB call_isi (by rfl) (E.fr "isinstance") (by decide +kernel) (pa_cons (pv 0) (pa_cons (pe_bltn (v := .ty "int") (by rfl) (E.fr "int") (by decide +kernel) rfl) pa_nil))) (pe_callB call_isi (by rfl) (E.fr "isinstance") (by decide +kernel) (pa_cons (pv 1) (pa_cons (pe_bltn (v := .ty "int") (by rfl) (E.fr "int") (by decide +kernel) rfl) pa_nil))) (nomark _)))))
        (pss_one (ps_ret pe_bl))
        pss_nil)
      (pss_one (ps_ret (pe_and (pe_cmpR op_eq (pe_callB call_isi (by rfl) (E.fr "isinstance") (by decide +kernel) (pa_cons (pv 0) (pa_cons (pe_bltn (v := .ty "str") (by rfl) (E.fr "str") (by decide +kernel) rfl) pa_nil))) (pe_callB call_isi (by rfl) (E.fr "isinstance") (by decide +kernel) (pa_cons (pv 1) (pa_cons (pe_bltn (v := .ty "str") (by rfl) (E.fr "str") (by decide +kernel) rfl) pa_nil))) (nomark _)) (pe_one (pe_cmpR op_eq (pv 0) (pv 1) (nomark _))))))))), ?_⟩
  obtain ⟨u, v, d, rfl, hu, hv, hd, hl, k⟩ := h
  rcases d with _ | bb | ii | ss | ds | ds | kv
  · -- none
    cases hv
    cases hu
    have t0 : TyX K H (V.non) (.type "NoneType") := .base .non
    refine ⟨_, rfl, _, _, _, _, false, rfl, .ty _, t0, kit_ty (by decide +kernel), _, rfl, ?_⟩
    refine ite_f rfl ⟨_, rfl, _, _, _, _, false, rfl, .ty _, t0, kit_ty (by decide +kernel), _, rfl, ?_⟩
    refine ite_f rfl ⟨_, rfl, rfl, _, rfl, ?_⟩
    refine ⟨_, rfl, rfl, _, rfl, ?_⟩
    refine ite_t rfl ⟨_, rfl, rfl, ?_⟩
    exact k H (Same.refl H)
  · -- bool
    cases hv
    cases hu
    have t0 : TyX K H (V.bl bb) (.type "bool") := .base (.bl bb)
    refine ⟨_, rfl, _, _, _, _, false, rfl, .ty _, t0, kit_ty (by decide +kernel), _, rfl, ?_⟩
    refine ite_f rfl ⟨_, rfl, _, _, _, _, false, rfl, .ty _, t0, kit_ty (by decide +kernel), _, rfl, ?_⟩
    refine ite_f rfl ⟨_, rfl, rfl, _, rfl, ?_⟩
    refine ite_f rfl ⟨_, rfl, rfl, _, rfl, ?_⟩
    refine ite_f rfl ⟨_, rfl, _, _, _, _, true, rfl, .ty _, t0, kit_ty (by decide +kernel), _, rfl, _, _, _, _, true, rfl, .ty _, t0, kit_ty (by decide +kernel), rfl, _, rfl, ?_⟩
    refine ite_f rfl ⟨_, rfl, _, _, _, _, true, rfl, .ty _, t0, kit_ty (by decide +kernel), _, rfl, _, _, _, _, true, rfl, .ty _, t0, kit_ty (by decide +kernel), rfl, _, rfl, ?_⟩
    refine ite_f rfl ⟨_, rfl, _, _, _, _, false, rfl, .ty _, t0, kit_ty (by decide +kernel), _, rfl, _, _, _, _, false, rfl, .ty _, t0, kit_ty (by decide +kernel), rfl, _, rfl, ?_⟩
    refine ite_t rfl ⟨_, rfl, _, rfl, rfl, ?_⟩
    rw [decide_eq_true (Eq.refl _)]
    exact k H (Same.refl H)
  · -- int
    cases hv
    cases hu
    have t0 : TyX K H (V.int ii) (.type "int") := .base (.int ii)
    refine ⟨_, rfl, _, _, _, _, false, rfl, .ty _, t0, kit_ty (by decide +kernel), _, rfl, ?_⟩
    refine ite_f rfl ⟨_, rfl, _, _, _, _, false, rfl, .ty _, t0, kit_ty (by decide +kernel), _, rfl, ?_⟩
    refine ite_f rfl ⟨_, rfl, rfl, _, rfl, ?_⟩
    refine ite_f rfl ⟨_, rfl, rfl, _, rfl, ?_⟩
    refine ite_f rfl ⟨_, rfl, _, _, _, _, false, rfl, .ty _, t0, kit_ty (by decide +kernel), _, rfl, _, _, _, _, false, rfl, .ty _, t0, kit_ty (by decide +kernel), rfl, _, rfl, ?_⟩
    refine ite_f rfl ⟨_, rfl, _, _, _, _, true, rfl, .ty _, t0, kit_ty (by decide +kernel), _, rfl, _, _, _, _, true, rfl, .ty _, t0, kit_ty (by decide +kernel), rfl, _, rfl, ?_⟩
    refine ite_f rfl ⟨_, rfl, _, _, _, _, false, rfl, .ty _, t0, kit_ty (by decide +kernel), _, rfl, _, _, _, _, false, rfl, .ty _, t0, kit_ty (by decide +kernel), rfl, _, rfl, ?_⟩
    refine ite_t rfl ⟨_, rfl, _, rfl, rfl, ?_⟩
    rw [decide_eq_true (Eq.refl _)]
    exact k H (Same.refl H)
  · -- str
    cases hv
    cases hu
    have t0 : TyX K H (V.str ss) (.type "str") := .base (.str ss)
    refine ⟨_, rfl, _, _, _, _, false, rfl, .ty _, t0, kit_ty (by decide +kernel), _, rfl, ?_⟩
    refine ite_f rfl ⟨_, rfl, _, _, _, _, false, rfl, .ty _, t0, kit_ty (by decide +kernel), _, rfl, ?_⟩
    refine ite_f rfl ⟨_, rfl, rfl, _, rfl, ?_⟩
    refine ite_f rfl ⟨_, rfl, rfl, _, rfl, ?_⟩
    refine ite_f rfl ⟨_, rfl, _, _, _, _, false, rfl, .ty _, t0, kit_ty (by decide +kernel), _, rfl, _, _, _, _, false, rfl, .ty _, t0, kit_ty (by decide +kernel), rfl, _, rfl, ?_⟩
    refine ite_f rfl ⟨_, rfl, _, _, _, _, false, rfl, .ty _, t0, kit_ty (by decide +kernel), _, rfl, _, _, _, _, false, rfl, .ty _, t0, kit_ty (by decide +kernel), rfl, _, rfl, ?_⟩
    refine ite_f rfl ⟨_, rfl, _, _, _, _, true, rfl, .ty _, t0, kit_ty (by decide +kernel), _, rfl, _, _, _, _, true, rfl, .ty _, t0, kit_ty (by decide +kernel), rfl, _, rfl, ?_⟩
    refine ite_t rfl ⟨_, rfl, _, rfl, rfl, ?_⟩
    rw [decide_eq_true (Eq.refl _)]
    exact k H (Same.refl H)
  · -- a list
    cases hv with
    | lst hv1 hv2 =>
    cases hu with
    | lst hu1 hu2 =>
    rename_i a xs b ys
    have tu := tyL hu1
    have tv := tyL hv1
    have hl := small_ofL hl
    have h0 : PyData.depthAll ds < n := by
      rw [PyData.depth] at hd
      omega
    have l1 := DpAll.length hu2
    have l2 := DpAll.length hv2
    refine ⟨_, rfl, _, _, _, _, true, rfl, .ty _, tv, kit_ty (by decide +kernel), _, rfl, ?_⟩
    refine ⟨_, rfl, _, _, _, _, true, rfl, .ty _, tu, kit_ty (by decide +kernel), _, rfl, _, _, _, _, true, rfl, .ty _, tv, kit_ty (by decide +kernel), rfl, _, rfl, ?_⟩
    refine ite_f rfl ⟨_, rfl, _, _, _, _, false, rfl, .ty _, tu, kit_ty (by decide +kernel), _, rfl, _, _, _, _, false, rfl, .ty _, tv, kit_ty (by decide +kernel), rfl, _, rfl, ?_⟩
    refine ite_f rfl ?_
    -- len(found) == len(due) and all([..])
    refine ⟨_, rfl, _, _, rfl, (.inl hu1), _, rfl, _, _, rfl, (.inl hv1), rfl, _, rfl, ?_⟩
    refine ite_t (decide_eq_true (by rw [l1, l2])) ?_
    refine ⟨_, rfl, _, rfl, _, _, _, _, rfl, (.inl ⟨hu1, hv1, fun D hD => ?_⟩)⟩
    refine lc_it (walk_zip (n := ds.length) (by rw [l1, l2, Nat.min_self])) (fun i H' => Same H H' ∧ H' D = some (.lst (List.replicate i (V.bl true)))) ⟨same_new hD, upd_same⟩ (fun i H' _ q => ⟨q.1.seq hu1, q.1.seq hv1⟩) ?_ ?_
    · rintro i x H2 H3 hi ⟨e2, g2⟩ ⟨T, u1, v1, rfl, hT, rfl, q1, q2⟩
      have e3 : Same H (upd H2 T (.tup [u1, v1])) := e2.trans (same_new hT)
      obtain ⟨d1, r1, s1⟩ := DpAll.get hu2 q1
      obtain ⟨d2, r2, s2⟩ := DpAll.get hv2 q2
      have ed : d2 = d1 := Option.some.inj (r2.symm.trans r1)
      subst ed
      refine ⟨T, _, rfl, SqT.of upd_same, rfl, _, _, rfl, _, _, rfl, rfl, rfl, ?_⟩
      refine ⟨_, rfl, _, rfl, u1, v1, d2, rfl, Dp.same e3 s1, Dp.same e3 s2, Nat.lt_of_le_of_lt (depth_get r1) h0, hl.2 r1, fun H4 e4 => ?_⟩
      refine ⟨_, e4 _ _ (by rw [upd_ne (ne_of_none g2 hT)]; exact g2), ?_, same_mut (e3.trans e4) hD, ?_⟩
      · rw [List.length_replicate]
        exact szl (Nat.lt_of_lt_of_le hi (Nat.le_trans hl.1 (by decide)))
      · rw [upd_same, List.replicate_succ']
    · rintro H2 ⟨e2, g2⟩
      refine ⟨D, List.replicate ds.length true, rfl, SqL.of (by rw [List.map_replicate]; exact g2), ?_⟩
      rw [show (List.replicate ds.length true).all id = true by simp]
      exact k H2 e2
  · -- a tuple
    cases hv with
    | tup hv1 hv2 =>
    cases hu with
    | tup hu1 hu2 =>
    rename_i a xs b ys
    have tu := tyT hu1
    have tv := tyT hv1
    have hl := small_ofT hl
    have h0 : PyData.depthAll ds < n := by
      rw [PyData.depth] at hd
      omega
    have l1 := DpAll.length hu2
    have l2 := DpAll.length hv2
    refine ⟨_, rfl, _, _, _, _, false, rfl, .ty _, tv, kit_ty (by decide +kernel), _, rfl, ?_⟩
    refine ite_f rfl ⟨_, rfl, _, _, _, _, true, rfl, .ty _, tv, kit_ty (by decide +kernel), _, rfl, ?_⟩
    refine ⟨_, rfl, _, _, _, _, false, rfl, .ty _, tu, kit_ty (by decide +kernel), _, rfl, _, _, _, _, false, rfl, .ty _, tv, kit_ty (by decide +kernel), rfl, _, rfl, ?_⟩
    refine ite_f rfl ⟨_, rfl, _, _, _, _, true, rfl, .ty _, tu, kit_ty (by decide +kernel), _, rfl, _, _, _, _, true, rfl, .ty _, tv, kit_ty (by decide +kernel), rfl, _, rfl, ?_⟩
    refine ite_f rfl ?_
    -- len(found) == len(due) and all([..])
    refine ⟨_, rfl, _, _, rfl, (.inr hu1), _, rfl, _, _, rfl, (.inr hv1), rfl, _, rfl, ?_⟩
    refine ite_t (decide_eq_true (by rw [l1, l2])) ?_
    refine ⟨_, rfl, _, rfl, _, _, _, _, rfl, (.inr ⟨hu1, hv1, fun D hD => ?_⟩)⟩
    refine lc_it (walk_zipT (n := ds.length) (by rw [l1, l2, Nat.min_self])) (fun i H' => Same H H' ∧ H' D = some (.lst (List.replicate i (V.bl true)))) ⟨same_new hD, upd_same⟩ (fun i H' _ q => ⟨seqT q.1 hu1, seqT q.1 hv1⟩) ?_ ?_
    · rintro i x H2 H3 hi ⟨e2, g2⟩ ⟨T, u1, v1, rfl, hT, rfl, q1, q2⟩
      have e3 : Same H (upd H2 T (.tup [u1, v1])) := e2.trans (same_new hT)
      obtain ⟨d1, r1, s1⟩ := DpAll.get hu2 q1
      obtain ⟨d2, r2, s2⟩ := DpAll.get hv2 q2
      have ed : d2 = d1 := Option.some.inj (r2.symm.trans r1)
      subst ed
      refine ⟨T, _, rfl, SqT.of upd_same, rfl, _, _, rfl, _, _, rfl, rfl, rfl, ?_⟩
      refine ⟨_, rfl, _, rfl, u1, v1, d2, rfl, Dp.same e3 s1, Dp.same e3 s2, Nat.lt_of_le_of_lt (depth_get r1) h0, hl.2 r1, fun H4 e4 => ?_⟩
      refine ⟨_, e4 _ _ (by rw [upd_ne (ne_of_none g2 hT)]; exact g2), ?_, same_mut (e3.trans e4) hD, ?_⟩
      · rw [List.length_replicate]
        exact szl (Nat.lt_of_lt_of_le hi (Nat.le_trans hl.1 (by decide)))
      · rw [upd_same, List.replicate_succ']
    · rintro H2 ⟨e2, g2⟩
      refine ⟨D, List.replicate ds.length true, rfl, SqL.of (by rw [List.map_replicate]; exact g2), ?_⟩
      rw [show (List.replicate ds.length true).all id = true by simp]
      exact k H2 e2
  · cases hu
theorem same_none (E : En K mg) : Good P w K mg base CX0 0 "_law_same" ["found", "due"] (spSame 0 K) := by
  obtain ⟨fd, F⟩ := E.says.def_ 8 (d := d__law_same) rfl
  have no : ∀ vs H Q E', ¬ spSame 0 K vs H Q E' := fun vs H Q E' h => by
    obtain ⟨u, v, d, _, _, _, hd, _⟩ := h
    omega
  exact ⟨fd, ⟨fun vs H Q E' h => absurd h (no vs H Q E'), fun A outer s H args us vs Q E' _ _ _ _ h => absurd h (no vs H Q E')⟩, F.bindsN fun _ _ _ _ _ _ us hl => match us, hl with | [_, _], _ => rfl, F.kp, E.gl "_law_same"⟩
theorem same_all (E : En K mg) : ∀ n : Nat, Good P w K mg base CX0 n "_law_same" ["found", "due"] (spSame n K)
  | 0 => same_none E
  | n + 1 => same_step E (same_all E n)
theorem ok__law_same (E : En K mg) : Good P w K mg base CX0 12 "_law_same" ["found", "due"] (sp__law_same K) := same_all E 12


/-! ### _law_made -/
/-- the pair of a row of runs, from the bottom up -/
def sp__law_made (K : PySem.W.Frag) : Sp := fun vs H Q _ => ∃ (a : Addr) (us : List V) (l : List (Bool × Nat)) (g : Nat), vs = [.ref a, .int (g : Int)] ∧ SqL K H a us ∧ DpAll K H us (l.map runD) ∧ 0 < g ∧ (grow (g, g) l).1 < 2 ^ 4000 ∧ (grow (g, g) l).2 < 2 ^ 4000 ∧
  ∀ (t : Addr) (H' : Hp), Same H H' → PairAt K H' (.ref t) (grow (g, g) l).1 (grow (g, g) l).2 → Q (.ref t) H'
theorem grow_step {l : List (Bool × Nat)} {i : Nat} {r : Bool × Nat} {p : Nat × Nat} (h : l[i]? = some r) : grow p (l.take (i + 1)) = put1 (grow p (l.take i)) r := by
  rw [List.take_add_one, h, Option.toList_some, grow_app]
  rfl
theorem grow_take_le (p : Nat × Nat) (l : List (Bool × Nat)) (i : Nat) : (grow p (l.take i)).1 ≤ (grow p l).1 ∧ (grow p (l.take i)).2 ≤ (grow p l).2 := by
  have h := grow_le (l.drop i) (grow p (l.take i))
  rw [← grow_app, List.take_append_drop] at h
  exact h

theorem sc__law_made : FnScope ["rows", "size", "one_z", "row"] ["rows", "size"] (defScope s__law_made) := ⟨rfl, rfl, rfl, by decide +kernel, rfl, by decide +kernel, by decide +kernel⟩
theorem ok__law_made (E : En K mg) : Good P w K mg base CX0 1 "_law_made" ["rows", "size"] (sp__law_made K) := by
  obtain ⟨fd, F⟩ := E.says.def_ 9 (d := d__law_made) rfl
  refine ⟨fd, ?_, F.bindsN fun _ _ _ _ _ _ us hl => match us, hl with | [_, _], _ => rfl, F.kp, E.gl "_law_made"⟩
  refine F.ok sc__law_made (fun vs H Q E' h => ?_) (fun cdv A outer s H vs Q E' hr h => ?_)
  · obtain ⟨a, us, l, g, rfl, _⟩ := h; rfl
  · have hu64 := hu64_of hr
    refine ⟨_, PSs.nox (pss_cons (ps_set (i := 2) sc__law_made.nd rfl (by first | exact Or.inl rfl | exact Or.inr rfl) (pe_tup (pa_cons (pv 1) (pa_cons (pv 1) pa_nil))))
      (pss_cons (ps_for PassesOwn.never rfl (pi_list (pv 0)) (pg_name (i := 3) sc__law_made.nd rfl (by first | exact Or.inl rfl | exact Or.inr rfl))
        (pss_one (ps_set (i := 2) sc__law_made.nd rfl (by first | exact Or.inl rfl | exact Or.inr rfl) (pe_ifExp (pt_cmpR op_eq (pe_ix ix_tup (pv 3) pe_int (fun _ _ => rfl)) pe_str (nomark _)) (pe_tup (pa_cons (pe_op op_add (pe_ix ix_tup (pv 2) pe_int (fun _ _ => rfl)) (pe_op op_mulW (pe_ix ix_tup (pv 3) pe_int (fun _ _ => rfl)) (pe_ix ix_tup (pv 2) pe_int (fun _ _ => rfl)))) (pa_cons (pe_ix ix_tup (pv 2) pe_int (fun _ _ => rfl)) pa_nil))) (pe_tup (pa_cons (pe_ix ix_tup (pv 2) pe_int (fun _ _ => rfl)) (pa_cons (pe_op op_add (pe_ix ix_tup (pv 2) pe_int (fun _ _ => rfl)) (pe_op op_mulW (pe_ix ix_tup (pv 3) pe_int (fun _ _ => rfl)) (pe_ix ix_tup (pv 2) pe_int (fun _ _ => rfl)))) pa_nil)))))))
      (pss_one (ps_ret (pv 2))))), ?_⟩
    obtain ⟨a, us, l, g, rfl, hA, dA, g0, b1, b2, k⟩ := h
    have s2 : 2 ≤ sizeLine := by decide
    have lus := DpAll.length dA
    rw [List.length_map] at lus
    refine ⟨_, rfl, _, rfl, s2, fun t0 ht0 => ?_⟩
    refine ⟨_, rfl, a, rfl, ⟨_, (same_new ht0).seq hA⟩, for_list (K := K) (a := a) (xs := us) (fun i σ H' => ∃ (t : Addr) (s3 : Option V), σ = [some (.ref a), some (.int (g : Int)), some (.ref t), s3] ∧ Same H H' ∧ H' t = some (.tup [.int ((grow (g, g) (l.take i)).1 : Int), .int ((grow (g, g) (l.take i)).2 : Int)]))
      ⟨t0, _, rfl, same_new ht0, upd_same⟩ (fun i σ H' _ ⟨_, _, _, e, _⟩ => e.seq hA) ?_ ?_⟩
    · rintro i z σ H1 hz ⟨t, _, rfl, e1, ht⟩
      obtain ⟨c, n, pz, hr, rfl, hpz⟩ := run_get (Dp.sameAll e1 dA) hz
      have hb := grow_take_le (g, g) l i
      have hb1 := grow_take_le (g, g) l (i + 1)
      have h0 := grow_le (l.take i) (g, g)
      rw [grow_step hr] at hb1 ⊢
      generalize grow (g, g) (l.take i) = p at *
      obtain ⟨x, y⟩ := p
      have hx : 0 < x := Nat.lt_of_lt_of_le g0 h0.1
      have hy : 0 < y := Nat.lt_of_lt_of_le g0 h0.2
      have hT := SqT.of (K := K) ht
      have bx : x < 2 ^ 4000 := Nat.lt_of_le_of_lt hb.1 b1
      have bY : y < 2 ^ 4000 := Nat.lt_of_le_of_lt hb.2 b2
      refine ⟨_, rfl, pz, _, _, _, rfl, rfl, hpz, at2_0 _ _, rfl, _, rfl, ?_⟩
      cases c
      · refine ite_f (by show decide (V.str "Y" = V.str "X") = false; decide +kernel) ?_
        have hb2 : y + n * x ≤ _ := hb1.2
        have bn : n < 2 ^ 4000 := by
          have z1 : n ≤ n * x := Nat.le_mul_of_pos_right n hx
          omega
        refine ⟨_, rfl, t, _, _, _, rfl, rfl, hT, at2_0 _ _, _, rfl, t, _, _, _, rfl, rfl, hT, at2_1 _ _, _, rfl, pz, _, _, _, rfl, rfl, hpz, at2_1 _ _, _, rfl, t, _, _, _, rfl, rfl, hT, at2_0 _ _, _, _, rfl, rfl, okMul bn bx, _, _, rfl, rfl, s2, ?_⟩
        dsimp only
        intro t2 ht2
        refine ⟨t2, _, rfl, e1.trans (same_new ht2), ?_⟩
        rw [upd_same]
        show some (HO.tup [V.int (x : Int), V.int ((y : Int) + (n : Int) * (x : Int))]) = some (HO.tup [V.int (x : Int), V.int ((y + n * x : Nat) : Int)])
        rw [Int.natCast_add, Int.natCast_mul]
      · refine ite_t (by show decide (V.str "X" = V.str "X") = true; decide +kernel) ?_
        have hb2 : x + n * y ≤ _ := hb1.1
        have bn : n < 2 ^ 4000 := by
          have z1 : n ≤ n * y := Nat.le_mul_of_pos_right n hy
          omega
        refine ⟨_, rfl, t, _, _, _, rfl, rfl, hT, at2_0 _ _, _, rfl, pz, _, _, _, rfl, rfl, hpz, at2_1 _ _, _, rfl, t, _, _, _, rfl, rfl, hT, at2_1 _ _, _, _, rfl, rfl, okMul bn bY, _, _, rfl, rfl, _, rfl, t, _, _, _, rfl, rfl, hT, at2_1 _ _, s2, ?_⟩
        dsimp only
        intro t2 ht2
        refine ⟨t2, _, rfl, e1.trans (same_new ht2), ?_⟩
        rw [upd_same]
        show some (HO.tup [V.int ((x : Int) + (n : Int) * (y : Int)), V.int (y : Int)]) = some (HO.tup [V.int ((x + n * y : Nat) : Int), V.int (y : Int)])
        rw [Int.natCast_add, Int.natCast_mul]
    · rintro σ H1 ⟨t, _, rfl, e1, ht⟩
      rw [lus, List.take_length] at ht
      exact ⟨_, rfl, k t _ e1 ⟨t, rfl, SqT.of ht⟩⟩

/-! ### _law_twisted -/
/-- rows with one letter moved from the last run to the first; a single row stays -/
def Tw (l l' : List (Bool × Nat)) : Prop := (l.length ≤ 1 ∧ l' = l) ∨ ∃ a mid z, l = a :: (mid ++ [z]) ∧ l' = twist2 a mid z
def sp__law_twisted (K : PySem.W.Frag) : Sp := fun vs H Q _ => ∃ (v : V) (a : Addr) (us : List V) (l : List (Bool × Nat)), vs = [v, .ref a] ∧ SqL K H a us ∧ DpAll K H us (l.map runD) ∧ l.length ≤ 10000 ∧ (∀ r ∈ l, 0 < r.2) ∧
  ∀ (f : Addr) (us' : List V) (l' : List (Bool × Nat)) (H' : Hp), Tw l l' → Same H H' → H' f = some (.lst us') → DpAll K H' us' (l'.map runD) → Q (.ref f) H'
/-- lists of a letter and a count, each by itself -/
structure Cells (H : Hp) (as : List Addr) (l : List (Bool × Int)) : Prop where
  len : as.length = l.length
  nd : as.Nodup
  at_ : ∀ (i : Nat) (a : Addr) (r : Bool × Int), as[i]? = some a → l[i]? = some r → H a = some (.lst [.str (letS r.1), .int r.2])
theorem Cells.keep {H H' : Hp} {as : List Addr} {l : List (Bool × Int)} (h : Cells H as l) (e : ∀ a ∈ as, ∀ o, H a = some o → H' a = some o) : Cells H' as l :=
  ⟨h.len, h.nd, fun i a r h1 h2 => e a (List.mem_of_getElem? h1) _ (h.at_ i a r h1 h2)⟩
theorem Cells.snoc {H : Hp} {as : List Addr} {l : List (Bool × Int)} {a : Addr} {r : Bool × Int} (h : Cells H as l) (hn : a ∉ as) (ha : H a = some (.lst [.str (letS r.1), .int r.2])) : Cells H (as ++ [a]) (l ++ [r]) := by
  refine ⟨by rw [List.length_append, List.length_append, h.len]; rfl, ?_, fun i b q h1 h2 => ?_⟩
  · rw [List.nodup_append]
    exact ⟨h.nd, (by simp), fun x hx y hy z => hn (by rw [List.mem_singleton] at hy; rw [← hy, ← z]; exact hx)⟩
  · by_cases c : i < as.length
    · rw [List.getElem?_append_left c] at h1
      rw [List.getElem?_append_left (by rw [← h.len]; exact c)] at h2
      exact h.at_ i b q h1 h2
    · rw [List.getElem?_append_right (by omega)] at h1
      rw [List.getElem?_append_right (by rw [← h.len]; omega), ← h.len] at h2
      cases e : i - as.length with
      | zero =>
        rw [e] at h1 h2
        cases h1
        cases h2
        exact ha
      | succ k =>
        rw [e] at h1
        cases h1
theorem Cells.occ {H : Hp} {as : List Addr} {l : List (Bool × Int)} (h : Cells H as l) {a : Addr} (ha : a ∈ as) : ∃ o, H a = some o := by
  obtain ⟨i, hi⟩ := List.getElem?_of_mem ha
  have h1 := (List.getElem?_eq_some_iff.mp hi).1
  have h2 : i < l.length := by rw [← h.len]; exact h1
  exact ⟨_, h.at_ i a l[i] hi (List.getElem?_eq_getElem h2)⟩
theorem Cells.set {H : Hp} {as : List Addr} {l : List (Bool × Int)} {j : Nat} {a : Addr} {r : Bool × Int} (h : Cells H as l) (ha : as[j]? = some a) (hr : l[j]? = some r) (m : Int) : Cells (upd H a (.lst [.str (letS r.1), .int m])) as (l.set j (r.1, m)) := by
  refine ⟨by rw [List.length_set]; exact h.len, h.nd, fun i b q h1 h2 => ?_⟩
  by_cases c : i = j
  · subst c
    rw [ha] at h1
    cases h1
    rw [List.getElem?_set_self (List.getElem?_eq_some_iff.mp hr).1] at h2
    cases h2
    exact upd_same
  · have hb : b ≠ a := fun z => by
      subst z
      exact c ((List.getElem?_inj (List.getElem?_eq_some_iff.mp h1).1 h.nd).mp (h1.trans ha.symm))
    rw [List.getElem?_set_ne (fun z => c z.symm)] at h2
    rw [upd_ne hb]
    exact h.at_ i b q h1 h2
def rawR (l : List (Bool × Nat)) : List (Bool × Int) := l.map fun r => (r.1, (r.2 : Int))
def backR (l : List (Bool × Int)) : List (Bool × Nat) := (l.filter fun r => decide (0 < r.2)).map fun r => (r.1, r.2.toNat)
theorem backR_raw : ∀ {l : List (Bool × Nat)}, (∀ r ∈ l, 0 < r.2) → backR (rawR l) = l
  | [], _ => rfl
  | (c, n) :: l, h => by
    have ih := backR_raw (l := l) fun r hr => h r (List.mem_cons_of_mem _ hr)
    have hn : 0 < n := h (c, n) List.mem_cons_self
    unfold backR rawR at ih ⊢
    rw [List.map_cons, List.filter_cons_of_pos (by show decide (0 < (n : Int)) = true; exact decide_eq_true (by omega)), List.map_cons, ih]
    rfl
theorem backR_app (l r : List (Bool × Int)) : backR (l ++ r) = backR l ++ backR r := by
  unfold backR
  rw [List.filter_append, List.map_append]
theorem backR_two {a z : Bool × Nat} {mid : List (Bool × Nat)} (h : ∀ r ∈ a :: (mid ++ [z]), 0 < r.2) : backR ((a.1, (a.2 : Int) + 1) :: (rawR mid ++ [(z.1, (z.2 : Int) - 1)])) = twist2 a mid z := by
  have hz : 0 < z.2 := h z (by simp)
  have hm := backR_raw (l := mid) fun r hr => h r (List.mem_cons_of_mem _ (List.mem_append_left _ hr))
  have e1 : backR [(a.1, (a.2 : Int) + 1)] = [(a.1, a.2 + 1)] := by
    unfold backR
    rw [List.filter_cons_of_pos (by show decide (0 < (a.2 : Int) + 1) = true; exact decide_eq_true (by omega))]
    rfl
  have e2 : backR [(z.1, (z.2 : Int) - 1)] = cut1 z := by
    unfold backR cut1
    by_cases c : z.2 > 1
    · rw [if_pos c, List.filter_cons_of_pos (by show decide (0 < (z.2 : Int) - 1) = true; exact decide_eq_true (by omega))]
      show [(z.1, ((z.2 : Int) - 1).toNat)] = _
      rw [show ((z.2 : Int) - 1).toNat = z.2 - 1 by omega]
    · rw [if_neg c, List.filter_cons_of_neg (by show ¬ decide (0 < (z.2 : Int) - 1) = true; rw [decide_eq_false (by omega)]; exact fun z => by cases z)]
      rfl
  show backR ([(a.1, (a.2 : Int) + 1)] ++ (rawR mid ++ [(z.1, (z.2 : Int) - 1)])) = _
  rw [backR_app, backR_app, e1, e2, hm]
  rfl

theorem sc__law_twisted : FnScope ["bag", "rows", "found", "row"] ["bag", "rows"] (defScope s__law_twisted) := ⟨rfl, rfl, rfl, by decide +kernel, rfl, by decide +kernel, by decide +kernel⟩
theorem ok__law_twisted (E : En K mg) : Good P w K mg base CX0 1 "_law_twisted" ["bag", "rows"] (sp__law_twisted K) := by
  obtain ⟨fd, F⟩ := E.says.def_ 10 (d := d__law_twisted) rfl
  refine ⟨fd, ?_, F.bindsN fun _ _ _ _ _ _ us hl => match us, hl with | [_, _], _ => rfl, F.kp, E.gl "_law_twisted"⟩
  refine F.ok sc__law_twisted (fun vs H Q E' h => ?_) (fun cdv A outer s H vs Q E' hr h => ?_)
  · obtain ⟨v, a, us, l, rfl, _⟩ := h; rfl
  · have hu64 := hu64_of hr
    refine ⟨_, PSs.nox (pss_cons (ps_setLc (i := 2) (own := [("row", 3)]) (by rfl) sc__law_twisted.nd rfl rfl (sw_true rfl rfl rfl (by decide +kernel)) (pi_list (pv 1)) (blkOk_by (N := ["bag", "rows", "found", "row"]) (sc := defScope s__law_twisted) (by decide +kernel)) (by exact fun _ _ _ _ _ => (pg_name (i := 3) sc__law_twisted.nd rfl (by first | exact Or.inl rfl | exact Or.inr rfl))) (by exact fun _ _ _ _ _ => pts_nil) (by exact fun _ _ _ _ _ => (pe_callTy (show CallR _ _ (rLof K) from call_list_of) (by rfl) (E.fr "list") (by decide +kernel) (pa_cons (pv 3) pa_nil))))
      (C8.pss_cut (ps_if (pt_cmpR op_gt (pe_callB call_len_seq (by rfl) (E.fr "len") (by decide +kernel) (pa_cons (pv 2) pa_nil)) pe_int (nomark _))
        (pss_cons (ps_asg (pe_op op_add (pe_ix ix_list (pe_ix ix_list (pv 2) pe_int (fun _ _ => rfl)) pe_int (fun _ _ => rfl)) pe_int) (pg_sub (pe_ix ix_list (pv 2) pe_int (fun _ _ => rfl)) pe_int set_list))
      (pss_one (ps_asg (pe_op op_sub (pe_ix ix_list (pe_ix ix_list (pv 2) (pe_un un_neg pe_int) (fun _ _ => rfl)) pe_int (fun _ _ => rfl)) pe_int) (pg_sub (pe_ix ix_list (pv 2) (pe_un un_neg pe_int) (fun _ _ => rfl)) pe_int set_list))))
        pss_nil)
      (pss_one (ps_ret (pe_lc (own := [("row", 3)]) (by rfl) sc__law_twisted.nd (pi_list (pv 2)) (blkOk_by (N := ["bag", "rows", "found", "row"]) (sc := defScope s__law_twisted) (by decide +kernel)) (by exact fun _ _ _ _ _ => (pg_name (i := 3) sc__law_twisted.nd rfl (by first | exact Or.inl rfl | exact Or.inr rfl))) (by exact fun _ _ _ _ _ => (pts_one (pt_cmpR op_gt (pe_ix (show IxR _ (rIxL K) from ix_list) (pv 3) pe_int (fun _ _ => rfl)) pe_int (nomark _)))) (by exact fun _ _ _ _ _ => (pe_tup (pa_cons (pe_ix (show IxR _ (rIxL K) from ix_list) (pv 3) pe_int (fun _ _ => rfl)) (pa_cons (pe_ix (show IxR _ (rIxL K) from ix_list) (pv 3) pe_int (fun _ _ => rfl)) pa_nil))))))))), ?_⟩
    obtain ⟨v, a, us, l, rfl, hA, dA, hl, hp, k⟩ := h
    have s2 : 2 ≤ sizeLine := by decide
    have lus := DpAll.length dA
    rw [List.length_map] at lus
    -- found = [list(row) for row in rows]
    refine ⟨_, rfl, a, rfl, ⟨_, hA⟩, fun D hD0 => ?_⟩
    refine lc_list (K := K) (a := a) (xs := us) (fun i H' => Same H H' ∧ ∃ as : List Addr, H' D = some (.lst (as.map V.ref)) ∧ Cells H' as (rawR (l.take i)) ∧ D ∉ as ∧ ∀ b ∈ as, H b = none) ⟨same_new hD0, [], upd_same, ⟨rfl, List.nodup_nil, fun i a r h _ => by cases h⟩, (fun z => by cases z), (fun _ z => by cases z)⟩ (fun i H' _ z => z.1.seq hA) ?_ ?_
    · rintro i z H1 hz ⟨e1, as, g1, g2, g3, g4⟩
      obtain ⟨c, n, pz, hr, rfl, hpz⟩ := run_get (Dp.sameAll e1 dA) hz
      have hi : i < l.length := (List.getElem?_eq_some_iff.mp hr).1
      have las := g2.len
      unfold rawR at las
      rw [List.length_map, List.length_take] at las
      refine ⟨rfl, _, rfl, pz, _, rfl, .inr hpz, fun q hq => ?_⟩
      have nD : D ≠ q := ne_of_none g1 hq
      have nas : q ∉ as := fun z => by
        obtain ⟨o, ho⟩ := g2.occ z
        rw [hq] at ho
        cases ho
      refine ⟨as.map V.ref, by rw [upd_ne nD]; exact g1, by rw [List.length_map]; exact szl (by omega), same_mut (e1.trans (same_new hq)) hD0, as ++ [q], by rw [upd_same, List.map_append]; rfl, ?_, ?_, ?_⟩
      · have e : rawR (l.take (i + 1)) = rawR (l.take i) ++ [(c, (n : Int))] := by
          unfold rawR
          rw [List.take_add_one, hr, List.map_append]
          rfl
        rw [e]
        refine Cells.snoc (g2.keep fun b hb o ho => ?_) nas (by rw [upd_ne nD.symm, upd_same])
        rw [upd_ne (fun z => g3 (by rw [← z]; exact hb)), upd_ne (fun z => nas (by rw [← z]; exact hb))]
        exact ho
      · intro z
        rcases List.mem_append.mp z with z | z
        · exact g3 z
        · exact nD (List.mem_singleton.mp z)
      · intro b hb
        rcases List.mem_append.mp hb with z | z
        · exact g4 b z
        · rw [List.mem_singleton] at z
          rw [z]
          exact Same.free e1 hq
    rintro H1 ⟨e1, as, g1, g2, g3, g4⟩
    rw [lus, List.take_length] at g2
    have las := g2.len
    unfold rawR at las
    rw [List.length_map] at las
    refine ⟨fun σ H' => ∃ (as : List Addr) (r2 : List (Bool × Int)) (l' : List (Bool × Nat)), σ = [some v, some (.ref a), some (.ref D), none] ∧ Same H H' ∧ H' D = some (.lst (as.map V.ref)) ∧ Cells H' as r2 ∧ as.length ≤ 10000 ∧ Tw l l' ∧ backR r2 = l', ?_, ?_⟩
    · refine ⟨_, rfl, D, _, rfl, .inl (SqL.of g1), _, _, rfl, rfl, _, rfl, ?_⟩
      by_cases hc : 1 < l.length
      rotate_left
      · refine ite_f (decide_eq_false (by rw [List.length_map]; omega)) ?_
        exact ⟨as, _, l, rfl, e1, g1, g2, by omega, .inl ⟨by omega, rfl⟩, backR_raw hp⟩
      refine ite_t (decide_eq_true (by rw [List.length_map]; omega)) ?_
      obtain ⟨x0, mid, z0, hl2⟩ := two_ends hc
      obtain ⟨p0, pm, pz, has⟩ := two_ends (l := as) (by omega)
      subst hl2
      have hm : as.map V.ref = (V.ref p0 :: pm.map V.ref) ++ [V.ref pz] := by
        rw [has, List.map_cons, List.map_append]
        rfl
      have lpm : pm.length = mid.length := by
        rw [has] at las
        simp only [List.length_cons, List.length_append, List.length_nil] at las
        omega
      have er : rawR (x0 :: (mid ++ [z0])) = (x0.1, (x0.2 : Int)) :: (rawR mid ++ [(z0.1, (z0.2 : Int))]) := by
        unfold rawR
        rw [List.map_cons, List.map_append]
        rfl
      rw [er] at g2
      have i0 : as[0]? = some p0 := by rw [has]; rfl
      have hp0 := g2.at_ 0 p0 _ i0 rfl
      have c1 := g2.set i0 (r := (x0.1, (x0.2 : Int))) rfl ((x0.2 : Int) + 1)
      have nd0 : D ≠ p0 := fun z => g3 (by rw [z]; exact List.mem_of_getElem? i0)
      have iz : as[mid.length + 1]? = some pz := by
        rw [has, List.getElem?_cons_succ, List.getElem?_append_right (by omega), lpm, Nat.sub_self]
        rfl
      have ndz : D ≠ pz := fun z => g3 (by rw [z]; exact List.mem_of_getElem? iz)
      have rz : ((x0.1, (x0.2 : Int) + 1) :: (rawR mid ++ [(z0.1, (z0.2 : Int))]))[mid.length + 1]? = some (z0.1, (z0.2 : Int)) := by
        have lr : (rawR mid).length = mid.length := by unfold rawR; rw [List.length_map]
        rw [List.getElem?_cons_succ, List.getElem?_append_right (by omega), lr, Nat.sub_self]
        rfl
      have hpz := c1.at_ _ pz _ iz rz
      have c2 := c1.set iz rz ((z0.2 : Int) - 1)
      have ec : (((x0.1, (x0.2 : Int) + 1) :: (rawR mid ++ [(z0.1, (z0.2 : Int))])).set (mid.length + 1) (z0.1, (z0.2 : Int) - 1)) = (x0.1, (x0.2 : Int) + 1) :: (rawR mid ++ [(z0.1, (z0.2 : Int) - 1)]) := by
        have lr : (rawR mid).length = mid.length := by unfold rawR; rw [List.length_map]
        rw [List.set_cons_succ, List.set_append_right _ _ (by omega), lr, Nat.sub_self]
        rfl
      have n0 : H p0 = none := g4 p0 (List.mem_of_getElem? i0)
      have nz : H pz = none := g4 pz (List.mem_of_getElem? iz)
      -- found[0][1] = found[0][1] + 1
      refine ⟨_, rfl, D, _, _, _, rfl, rfl, SqL.of g1, (by rw [hm]; show atI _ ((0 : Nat) : Int) = _; exact atI_nat rfl), p0, _, _, _, rfl, rfl, SqL.of hp0, at2_1 _ _, _, _, rfl, rfl, ?_⟩
      refine ⟨_, rfl, D, _, _, _, rfl, rfl, SqL.of g1, (by rw [hm]; show atI _ ((0 : Nat) : Int) = _; exact atI_nat rfl), p0, _, 1, 1, rfl, rfl, hp0, rfl, ?_⟩
      have g1b : (upd H1 p0 (.lst [.str (letS x0.1), .int ((x0.2 : Int) + 1)])) D = some (.lst (as.map V.ref)) := by rw [upd_ne nd0]; exact g1
      -- found[-1][1] = found[-1][1] - 1
      refine ⟨_, rfl, _, rfl, D, _, _, _, rfl, rfl, SqL.of g1b, (by rw [hm]; exact atI_last _ _), pz, _, _, _, rfl, rfl, SqL.of hpz, at2_1 _ _, _, _, rfl, rfl, ?_⟩
      refine ⟨_, rfl, _, rfl, D, _, _, _, rfl, rfl, SqL.of g1b, (by rw [hm]; exact atI_last _ _), pz, _, 1, 1, rfl, rfl, hpz, rfl, ?_⟩
      refine ⟨as, _, twist2 x0 mid z0, rfl, same_mut (same_mut e1 n0) nz, ?_, c2, by omega, .inr ⟨x0, mid, z0, rfl, rfl⟩, ?_⟩
      · show (upd (upd H1 p0 (.lst [.str (letS x0.1), .int ((x0.2 : Int) + 1)])) pz (.lst [.str (letS z0.1), .int ((z0.2 : Int) - 1)])) D = _
        rw [upd_ne ndz]
        exact g1b
      · show backR (((x0.1, (x0.2 : Int) + 1) :: (rawR mid ++ [(z0.1, (z0.2 : Int))])).set (mid.length + 1) (z0.1, (z0.2 : Int) - 1)) = _
        rw [ec]
        exact backR_two hp
    rintro σ H2 ⟨as, r2, l', rfl, e2, f1, f2, f3, f4, f5⟩
    have l2 := f2.len
    -- [(row[0], row[1]) for row in found if row[1] > 0]
    refine ⟨_, rfl, D, rfl, ⟨_, SqL.of f1⟩, fun D2 hD2 => ?_⟩
    refine lc_list (K := K) (a := D) (xs := as.map V.ref) (fun i H' => Same H2 H' ∧ ∃ us', H' D2 = some (.lst us') ∧ us'.length ≤ i ∧ DpAll K H' us' ((backR (r2.take i)).map runD)) ⟨same_new hD2, [], upd_same, Nat.le_refl 0, .nil⟩ (fun i H' _ z => SqL.of (z.1 _ _ f1)) ?_ ?_
    · rintro i z H3 hz ⟨e3, us', h1, h1l, h2⟩
      rw [List.getElem?_map] at hz
      obtain ⟨q, hq, rfl⟩ := Option.map_eq_some_iff.mp hz
      have hi : i < as.length := (List.getElem?_eq_some_iff.mp hq).1
      have hr2 : r2[i]? = some r2[i] := List.getElem?_eq_getElem (by omega)
      have hcell := e3 _ _ (f2.at_ i q _ hq hr2)
      generalize r2[i] = rr at *
      obtain ⟨c, n⟩ := rr
      have hS := SqL.of (K := K) hcell
      have est : backR (r2.take (i + 1)) = backR (r2.take i) ++ backR [(c, n)] := by
        rw [List.take_add_one, hr2, backR_app]
        rfl
      refine ⟨rfl, _, rfl, q, _, _, _, rfl, rfl, hS, at2_1 _ _, _, _, rfl, rfl, _, rfl, ?_⟩
      by_cases hn : 0 < n
      · refine ite_t (decide_eq_true hn) ?_
        refine ⟨_, rfl, q, _, _, _, rfl, rfl, hS, at2_0 _ _, _, rfl, q, _, _, _, rfl, rfl, hS, at2_1 _ _, s2, fun t ht => ?_⟩
        have nt : D2 ≠ t := ne_of_none h1 ht
        have h1' : (upd H3 t (.tup [.str (letS c), .int n])) D2 = some (.lst us') := by rw [upd_ne nt]; exact h1
        refine ⟨us', h1', szl (by omega), same_mut (e3.trans (same_new ht)) hD2, us' ++ [.ref t], upd_same, by rw [List.length_append]; exact Nat.succ_le_succ h1l, ?_⟩
        have eb : backR [(c, n)] = [(c, n.toNat)] := by
          unfold backR
          rw [List.filter_cons_of_pos (by show decide (0 < n) = true; exact decide_eq_true hn)]
          rfl
        rw [est, eb, List.map_append]
        refine DpAll.append (Dp.sameTs ((SameT.new ht).trans (.put h1')) (noLs_map noL_runD _) h2) (DpAll.one (.tup (SqT.of (by rw [upd_ne nt.symm, upd_same])) (.cons (.str _) (.cons ?_ .nil))))
        show Dp K _ (.int n) (.int ((n.toNat : Nat) : Int))
        rw [show ((n.toNat : Nat) : Int) = n by omega]
        exact .int n
      · refine ite_f (decide_eq_false hn) ⟨e3, us', h1, by omega, ?_⟩
        have eb : backR [(c, n)] = [] := by
          unfold backR
          rw [List.filter_cons_of_neg (by show ¬ decide (0 < n) = true; rw [decide_eq_false hn]; exact fun z => by cases z)]
          rfl
        rw [est, eb, List.append_nil]
        exact h2
    rintro H3 ⟨e3, us', h1, _, h2⟩
    rw [List.length_map, l2, List.take_length, f5] at h2
    exact k D2 us' l' _ f4 (e2.trans e3) h1 h2

/-! ### _law_pull -/
/-- a draw: some number from 0 on and below the amount; the bag alone has changed -/
def sp__law_pull (K : PySem.W.Frag) : Sp := fun vs H Q _ => ∃ (b : Addr) (n : Int), vs = [.ref b, .int n] ∧ Bag H b ∧ 0 < n ∧ n < 1073741824 ∧ ∀ (r : Int) (H' : Hp), 0 ≤ r → r < n → Bag H' b → Kp b H H' → Q (.int r) H'
theorem at4_0 (a b c d : V) : atI [a, b, c, d] 0 = some a := rfl
theorem at4_1 (a b c d : V) : atI [a, b, c, d] 1 = some b := rfl
theorem at4_2 (a b c d : V) : atI [a, b, c, d] 2 = some c := rfl
theorem at4_3 (a b c d : V) : atI [a, b, c, d] 3 = some d := rfl
/-- the bag behind the first if -/
def pullMid (b : Addr) (n : Int) (H : Hp) : L2.St → Hp → Prop := fun σ H' => Bag H' b ∧ Kp b H H' ∧ ∃ v, σ = [some (.ref b), some (.int n), v, none, none]
theorem bag_put {H : Hp} {b c : Addr} {xs : List Int} {i hold seed : Int} {o : HO} (h : o = .lst [.ref c, .int i, .int hold, .int seed]) (h2 : H c = some (.lst (xs.map V.int))) (ne : b ≠ c) (h3 : xs.length ≤ 63) (h4 : 0 ≤ i) (h5 : 0 ≤ hold) (h6 : 0 ≤ seed) (h7 : seed < 2147483647) : Bag (upd H b o) b :=
  ⟨c, xs, i, hold, seed, by rw [upd_same, h], by rw [upd_ne ne.symm]; exact h2, ne, h3, h4, h5, h6, h7⟩

theorem sc__law_pull : FnScope ["bag", "amount", "cell", "got", "seed"] ["bag", "amount"] (defScope s__law_pull) := ⟨rfl, rfl, rfl, by decide +kernel, rfl, by decide +kernel, by decide +kernel⟩
theorem ok__law_pull (E : En K mg) : Good P w K mg base CX0 1 "_law_pull" ["bag", "amount"] (sp__law_pull K) := by
  obtain ⟨fd, F⟩ := E.says.def_ 11 (d := d__law_pull) rfl
  refine ⟨fd, ?_, F.bindsN fun _ _ _ _ _ _ us hl => match us, hl with | [_, _], _ => rfl, F.kp, E.gl "_law_pull"⟩
  refine F.ok sc__law_pull (fun vs H Q E' h => ?_) (fun cdv A outer s H vs Q E' hr h => ?_)
  · obtain ⟨b, n, rfl, _⟩ := h; rfl
  · have hu64 := hu64_of hr
    refine ⟨_, PSs.nox (C8.pss_cut (ps_if (PW.pt (pw_and (pt_cmpR op_eq (pe_ix ix_list (pv 0) pe_int (fun _ _ => rfl)) pe_int (nomark _)) (pw_and1 (pt_cmpR op_lt (pe_ix ix_list (pv 0) pe_int (fun _ _ => rfl)) (pe_callB call_len_seq (by rfl) (E.fr "len") (by decide +kernel) (pa_cons (pe_ix ix_list (pv 0) pe_int (fun _ _ => rfl)) pa_nil)) (nomark _)))))
        (pss_cons (ps_set (i := 2) sc__law_pull.nd rfl (by first | exact Or.inl rfl | exact Or.inr rfl) (pe_ix ix_list (pe_ix ix_list (pv 0) pe_int (fun _ _ => rfl)) (pe_ix ix_list (pv 0) pe_int (fun _ _ => rfl)) (fun _ _ => rfl)))
      (pss_cons (ps_asg (pe_op op_add (pe_ix ix_list (pv 0) pe_int (fun _ _ => rfl)) pe_int) (pg_sub (pv 0) pe_int set_list))
      (pss_one (ps_if (pt_cmpR op_ge (pv 2) (pe_op op_pow pe_int pe_int) (nomark _))
        (pss_one (ps_asg (pv 2) (pg_sub (pv 0) pe_int set_list)))
        (pss_one (ps_asg (pe_op op_mod (pe_callTy call_int1 (by rfl) (E.fr "int") (by decide +kernel) (pa_cons (pe_op op_add (pe_op op_add (pe_op op_mul (pe_ix ix_list (pv 0) pe_int (fun _ _ => rfl)) pe_int) (pe_op op_mul (pe_op op_mod (pe_callTy call_int1 (by rfl) (E.fr "int") (by decide +kernel) (pa_cons (pv 2) pa_nil)) pe_int) pe_int)) pe_int) pa_nil)) pe_int) (pg_sub (pv 0) pe_int set_list)))))))
        pss_nil)
      (pss_cons (ps_if (pt_cmpR op_gt (pe_ix ix_list (pv 0) pe_int (fun _ _ => rfl)) pe_int (nomark _))
        (pss_cons (ps_set (i := 3) sc__law_pull.nd rfl (by first | exact Or.inl rfl | exact Or.inr rfl) (pe_op op_mod (pe_callTy call_int1 (by rfl) (E.fr "int") (by decide +kernel) (pa_cons (pe_ix ix_list (pv 0) pe_int (fun _ _ => rfl)) pa_nil)) (pv 1)))
      (pss_cons (ps_asg (pe_op op_fdiv (pe_ix ix_list (pv 0) pe_int (fun _ _ => rfl)) (pv 1)) (pg_sub (pv 0) pe_int set_list))
      (pss_one (ps_ret (pv 3)))))
        pss_nil)
      (pss_cons (ps_set (i := 4) sc__law_pull.nd rfl (by first | exact Or.inl rfl | exact Or.inr rfl) (pe_ix ix_list (pv 0) pe_int (fun _ _ => rfl)))
      (pss_cons (ps_asg (pe_op op_mod (pe_callTy call_int1 (by rfl) (E.fr "int") (by decide +kernel) (pa_cons (pe_op op_add (pe_op op_add (pe_op op_mul (pv 4) (pv 4)) (pe_op op_mul (pv 4) pe_int)) pe_int) pa_nil)) pe_int) (pg_sub (pv 0) pe_int set_list))
      (pss_one (ps_ret (pe_op op_mod (pe_callTy call_int1 (by rfl) (E.fr "int") (by decide +kernel) (pa_cons (pe_op op_add (pe_op op_fdiv (pe_ix ix_list (pv 0) pe_int (fun _ _ => rfl)) pe_int) (pe_op op_mul (pe_op op_mod (pe_callTy call_int1 (by rfl) (E.fr "int") (by decide +kernel) (pa_cons (pe_ix ix_list (pv 0) pe_int (fun _ _ => rfl)) pa_nil)) pe_int) pe_int)) pa_nil)) (pv 1)))))))), ?_⟩
    obtain ⟨b, n, rfl, B, hn, hn2, k⟩ := h
    refine ⟨pullMid b n H, ?_, ?_⟩
    · obtain ⟨c, xs, i, hold, seed, h1, h2, ne, h3, h4, h5, h6, h7⟩ := B.ex
      refine ⟨_, rfl, b, _, _, _, rfl, rfl, SqL.of h1, at4_2 _ _ _ _, rfl, _, rfl, ?_⟩
      by_cases c0 : hold = 0
      · subst c0
        refine ite_t (deq rfl) ?_
        refine ⟨_, rfl, b, _, _, _, rfl, rfl, SqL.of h1, at4_1 _ _ _ _, _, rfl, b, _, _, _, rfl, rfl, SqL.of h1, at4_0 _ _ _ _, c, _, rfl, .inl (SqL.of h2), _, _, rfl, rfl, _, rfl, ?_⟩
        refine ite2 (fun cl => ?_) (fun _ => ⟨B, Kp.refl _ _, _, rfl⟩)
        have cl' : i < ((xs.map V.int).length : Int) := of_decide_eq_true cl
        rw [List.length_map] at cl'
        have hi : i.toNat < xs.length := by omega
        have ei : ((i.toNat : Nat) : Int) = i := by omega
        have ha : atI (xs.map V.int) i = some (.int xs[i.toNat]) := by
          have q : atI (xs.map V.int) ((i.toNat : Nat) : Int) = some (.int xs[i.toNat]) := atI_nat (by rw [List.getElem?_map, List.getElem?_eq_getElem hi] <;> rfl)
          rw [ei] at q
          exact q
        -- cell = bag[0][bag[1]]
        refine ⟨_, rfl, b, _, _, _, rfl, rfl, SqL.of h1, at4_0 _ _ _ _, _, rfl, b, _, _, _, rfl, rfl, SqL.of h1, at4_1 _ _ _ _, c, _, _, _, rfl, rfl, SqL.of h2, ha, ?_⟩
        -- bag[1] = bag[1] + 1
        refine ⟨_, rfl, b, _, _, _, rfl, rfl, SqL.of h1, at4_1 _ _ _ _, _, _, rfl, rfl, _, rfl, b, _, _, 1, rfl, rfl, h1, rfl, ?_⟩
        have g1 : (upd H b (.lst [.ref c, .int (i + 1), .int 0, .int seed])) b = some (.lst [.ref c, .int (i + 1), .int 0, .int seed]) := upd_same
        have g2 : (upd H b (.lst [.ref c, .int (i + 1), .int 0, .int seed])) c = some (.lst (xs.map V.int)) := by rw [upd_ne ne.symm]; exact h2
        -- if cell >= 10 ** 18
        refine ⟨_, rfl, _, _, rfl, rfl, ⟨by decide, by decide, by decide⟩, _, _, rfl, rfl, _, rfl, ?_⟩
        refine ite2 (fun cc => ?_) (fun _ => ?_)
        · have cc' : (10 : Int) ^ (18 : Int).toNat ≤ xs[i.toNat] := of_decide_eq_true cc
          have c0 : 0 ≤ xs[i.toNat] := Int.le_trans (by decide) cc'
          refine ⟨_, rfl, _, rfl, b, _, _, 2, rfl, rfl, g1, rfl, ?_⟩
          exact ⟨bag_put rfl g2 ne h3 (by omega) c0 h6 h7, Kp.put.trans Kp.put, _, rfl⟩
        · refine ⟨_, rfl, b, _, _, _, rfl, rfl, SqL.of g1, at4_3 _ _ _ _, _, _, rfl, rfl, .inr ⟨by decide, by decide⟩, _, rfl, .inl ⟨_, rfl, _, _, rfl, rfl, (by show (0 : Int) < _; decide), _, _, rfl, rfl, .inr ⟨by decide, by decide⟩, _, _, rfl, rfl, _, _, rfl, rfl, .inl ⟨_, rfl, _, _, rfl, rfl, (by show (0 : Int) < _; decide), ?_⟩⟩⟩
          refine ⟨_, rfl, b, _, _, 3, rfl, rfl, g1, rfl, ?_⟩
          have q := emod_bd (seed * 40699 + xs[i.toNat] % 2147483587 * 69691 + 13) (m := 2147483647) (by decide)
          exact ⟨bag_put rfl g2 ne h3 (by omega) (by decide) q.1 q.2, Kp.put.trans Kp.put, _, rfl⟩
      · exact ite_f (dne c0) (ite_f rfl ⟨B, Kp.refl _ _, _, rfl⟩)
    · rintro σ H1 ⟨B1, kp, v, rfl⟩
      obtain ⟨c, xs, i, hold, seed, h1, h2, ne, h3, h4, h5, h6, h7⟩ := B1.ex
      refine ⟨_, rfl, b, _, _, _, rfl, rfl, SqL.of h1, at4_2 _ _ _ _, _, _, rfl, rfl, _, rfl, ?_⟩
      refine ite2 (fun _ => ?_) (fun _ => ?_)
      · -- got = int(bag[2]) % amount; bag[2] = bag[2] // amount; return got
        refine ⟨_, rfl, b, _, _, _, rfl, rfl, SqL.of h1, at4_2 _ _ _ _, .inl ⟨_, rfl, _, rfl, _, _, rfl, rfl, hn, ?_⟩⟩
        refine ⟨_, rfl, b, _, _, _, rfl, rfl, SqL.of h1, at4_2 _ _ _ _, _, rfl, _, _, rfl, rfl, ⟨hn, hn2⟩, _, rfl, b, _, _, 2, rfl, rfl, h1, rfl, _, rfl, ?_⟩
        have q := emod_bd hold (m := n) hn
        exact k _ _ q.1 q.2 (bag_put rfl h2 ne h3 h4 (Int.ediv_nonneg h5 (by omega)) h6 h7) (kp.trans Kp.put)
      · -- seed = bag[3]
        refine ⟨_, rfl, b, _, _, _, rfl, rfl, SqL.of h1, at4_3 _ _ _ _, ?_⟩
        refine ⟨_, rfl, _, rfl, _, _, rfl, rfl, .inr ⟨by omega, by omega⟩, _, rfl, _, _, rfl, rfl, .inr ⟨by decide, by decide⟩, _, _, rfl, rfl, _, _, rfl, rfl, .inl ⟨_, rfl, _, _, rfl, rfl, (by show (0 : Int) < _; decide), _, rfl, b, _, _, 3, rfl, rfl, h1, rfl, ?_⟩⟩
        have g1 : ∀ z : Int, (upd H1 b (.lst [.ref c, .int i, .int hold, .int z])) b = some (.lst [.ref c, .int i, .int hold, .int z]) := fun _ => upd_same
        refine ⟨_, rfl, b, _, _, _, rfl, rfl, SqL.of (g1 _), at4_3 _ _ _ _, _, _, rfl, rfl, ⟨by decide, by decide⟩, _, rfl, b, _, _, _, rfl, rfl, SqL.of (g1 _), at4_3 _ _ _ _, .inl ⟨_, rfl, _, _, rfl, rfl, (by show (0 : Int) < _; decide), _, _, rfl, rfl, .inr ⟨by decide, by decide⟩, _, _, rfl, rfl, .inl ⟨_, rfl, _, rfl, _, _, rfl, rfl, hn, ?_⟩⟩⟩
        have q := emod_bd (seed * seed + seed * 48271 + 1013904227) (m := 2147483647) (by decide)
        have r := emod_bd ((seed * seed + seed * 48271 + 1013904227) % 2147483647 / 97 + (seed * seed + seed * 48271 + 1013904227) % 2147483647 % 8191 * 67) (m := n) hn
        exact k _ _ r.1 r.2 (bag_put rfl h2 ne h3 h4 h5 q.1 q.2) (kp.trans Kp.put)

/-! ### _law_runs -/
def sp__law_runs (K : PySem.W.Frag) : Sp := fun vs H Q _ => ∃ (v : V) (x y : Nat), vs = [v] ∧ PairAt K H v x y ∧ okP x y ∧
  ∀ (f : Addr) (us : List V) (H' : Hp), H f = none → Same H H' → H' f = some (.lst us) → DpAll K H' us ((R x y).map runD) → Q (.ref f) H'

theorem sc__law_runs : FnScope ["pair", "x", "y", "found"] ["pair"] (defScope s__law_runs) := ⟨rfl, rfl, rfl, by decide +kernel, rfl, by decide +kernel, by decide +kernel⟩
theorem ok__law_runs (E : En K mg) : Good P w K mg base CX0 1 "_law_runs" ["pair"] (sp__law_runs K) := by
  obtain ⟨fd, F⟩ := E.says.def_ 12 (d := d__law_runs) rfl
  refine ⟨fd, ?_, F.bindsN fun _ _ _ _ _ _ us hl => match us, hl with | [_], _ => rfl, F.kp, E.gl "_law_runs"⟩
  refine F.ok sc__law_runs (fun vs H Q E' h => ?_) (fun cdv A outer s H vs Q E' hr h => ?_)
  · obtain ⟨v, x, y, rfl, _⟩ := h; rfl
  · have hu64 := hu64_of hr
    refine ⟨_, PSs.nox (pss_cons (ps_asg (pv 0) (pg_tup rfl (pgs_cons (pg_name (i := 1) sc__law_runs.nd rfl (by first | exact Or.inl rfl | exact Or.inr rfl)) (pgs_cons (pg_name (i := 2) sc__law_runs.nd rfl (by first | exact Or.inl rfl | exact Or.inr rfl)) pgs_nil))))
      (pss_cons (ps_set (i := 3) sc__law_runs.nd rfl (by first | exact Or.inl rfl | exact Or.inr rfl) (pe_lst pa_nil))
      (pss_cons (ps_while PassesOwn.never (PW.pt (pw_and (pt_cmpR op_gt (pv 1) pe_int (nomark _)) (pw_and (pt_cmpR op_gt (pv 2) pe_int (nomark _)) (pw_and1 (pt_cmpR op_ne (pv 1) (pv 2) (nomark _))))))
        (pss_one (ps_if (pt_cmpR op_gt (pv 1) (pv 2) (nomark _))
        (pss_cons (ps_expr (pe_bm PySem.F.plainAttrs_list PySem.F.slot_list_append PySem.F.type_list_append mt_append (pv 3) (pa_cons (pe_tup (pa_cons pe_str (pa_cons (pe_op op_fdivW (pe_op op_sub (pv 1) pe_int) (pv 2)) pa_nil))) pa_nil)))
      (pss_one (ps_set (i := 1) sc__law_runs.nd rfl (by first | exact Or.inl rfl | exact Or.inr rfl) (pe_op op_sub (pv 1) (pe_op op_mulW (pe_ix ix_tup (pe_ix ix_list (pv 3) (pe_un un_neg pe_int) (fun _ _ => rfl)) pe_int (fun _ _ => rfl)) (pv 2))))))
        (pss_cons (ps_expr (pe_bm PySem.F.plainAttrs_list PySem.F.slot_list_append PySem.F.type_list_append mt_append (pv 3) (pa_cons (pe_tup (pa_cons pe_str (pa_cons (pe_op op_fdivW (pe_op op_sub (pv 2) pe_int) (pv 1)) pa_nil))) pa_nil)))
      (pss_one (ps_set (i := 2) sc__law_runs.nd rfl (by first | exact Or.inl rfl | exact Or.inr rfl) (pe_op op_sub (pv 2) (pe_op op_mulW (pe_ix ix_tup (pe_ix ix_list (pv 3) (pe_un un_neg pe_int) (fun _ _ => rfl)) pe_int (fun _ _ => rfl)) (pv 1)))))))))
      (pss_one (ps_ret (pv 3)))))), ?_⟩
    obtain ⟨v, x, y, rfl, hP, ok, k⟩ := h
    have e1 : Same H H := Same.refl H
    obtain ⟨a, rfl, hS⟩ := hP
    refine ⟨_, rfl, a, _, rfl, seqT e1 hS, rfl, _, _, rfl, _, _, rfl, rfl, (by show 0 ≤ sizeLine; decide), fun f hf => ?_⟩
    have hf0 : H f = none := Same.free e1 hf
    refine ⟨fun m σ H' => ∃ (i j : Nat) (acc : List (Bool × Nat)) (us : List V), m = i + j ∧ σ = [some (.ref a), some (.int (i : Int)), some (.int (j : Int)), some (.ref f)] ∧ acc ++ R i j = R x y ∧ i < 2 ^ 4000 ∧ j < 2 ^ 4000 ∧ Same H H' ∧ H' f = some (.lst us) ∧ DpAll K H' us (acc.map runD),
      ⟨x + y, x, y, [], [], rfl, rfl, rfl, ok.2.1, ok.2.2, same_mut e1 hf0, upd_same, .nil⟩, ?_⟩
    rintro m σ H' ⟨i, j, acc, us, rfl, rfl, hR, hi, hj, e, hF, hD⟩
    have fin : R i j = [] → Q (.ref f) H' := fun z => by
      rw [z, List.append_nil] at hR
      rw [hR] at hD
      exact k f us H' hf0 e hF hD
    have hlen : us.length < sizeLine := by
      have h1 := DpAll.length hD
      rw [List.length_map] at h1
      have h2 := R_len' ok
      rw [← hR, List.length_append] at h2
      exact szl (by omega)
    -- the turn's end: a run more
    have more : ∀ (b : Bool) (n i' j' : Nat) (p : Addr), H' p = none → i' + j' < i + j → R i j = (b, n) :: R i' j' → i' < 2 ^ 4000 → j' < 2 ^ 4000 →     ∃ m', m' < i + j ∧ ∃ (i j : Nat) (acc : List (Bool × Nat)) (us' : List V), m' = i + j ∧ [some (V.ref a), some (.int (i' : Int)), some (.int (j' : Int)), some (.ref f)] = [some (.ref a), some (.int (i : Int)), some (.int (j : Int)), some (.ref f)] ∧ acc ++ R i j = R x y ∧ i < 2 ^ 4000 ∧ j < 2 ^ 4000 ∧ Same H (upd (upd H' p (.tup [.str (letS b), .int (n : Int)])) f (.lst (us ++ [.ref p]))) ∧ (upd (upd H' p (.tup [.str (letS b), .int (n : Int)])) f (.lst (us ++ [.ref p]))) f = some (.lst us') ∧ DpAll K (upd (upd H' p (.tup [.str (letS b), .int (n : Int)])) f (.lst (us ++ [.ref p]))) us' (acc.map runD) := fun b n i' j' p hp hm hr h1 h2 => by
      have nf : f ≠ p := ne_of_none hF hp
      have hF2 : (upd H' p (.tup [.str (letS b), .int (n : Int)])) f = some (.lst us) := by rw [upd_ne nf]; exact hF
      have t1 : SameT H' (upd (upd H' p (.tup [.str (letS b), .int (n : Int)])) f (.lst (us ++ [.ref p]))) := (SameT.new hp).trans (.put hF2)
      refine ⟨i' + j', hm, i', j', acc ++ [(b, n)], us ++ [.ref p], rfl, rfl, ?_, h1, h2, same_mut (e.trans (same_new hp)) hf0, upd_same, ?_⟩
      · rw [List.append_assoc, ← hR, hr]
        rfl
      · rw [List.map_append]
        refine DpAll.append (Dp.sameTs t1 (noLs_map noL_runD acc) hD) (DpAll.one (.tup (SqT.of ?_) (.cons (.str _) (.cons (.int _) .nil))))
        rw [upd_ne nf.symm, upd_same]
    -- while x > 0 and y > 0 and x != y
    refine ⟨_, rfl, _, _, rfl, rfl, _, rfl, ?_⟩
    by_cases c2 : 0 < i
    rotate_left
    · exact ite_f (decide_eq_false (by omega)) (ite_f rfl ⟨_, rfl, fin (R_nil (by omega))⟩)
    refine ite_t (decide_eq_true (by omega)) ⟨_, rfl, _, _, rfl, rfl, _, rfl, ?_⟩
    by_cases c3 : 0 < j
    rotate_left
    · exact ite_f (decide_eq_false (by omega)) (ite_f rfl ⟨_, rfl, fin (R_nil (by omega))⟩)
    refine ite_t (decide_eq_true (by omega)) ⟨_, rfl, _, rfl, rfl, _, rfl, ?_⟩
    by_cases c1 : i = j
    · exact ite_f (by rw [deq (by omega)]; rfl) ⟨_, rfl, fin (R_nil (by omega))⟩
    refine ite_t (by rw [dne (by omega)]; rfl) ⟨fun σ' H'' => ∃ m', m' < i + j ∧ ∃ (i j : Nat) (acc : List (Bool × Nat)) (us : List V), m' = i + j ∧ σ' = [some (.ref a), some (.int (i : Int)), some (.int (j : Int)), some (.ref f)] ∧ acc ++ R i j = R x y ∧ i < 2 ^ 4000 ∧ j < 2 ^ 4000 ∧ Same H H'' ∧ H'' f = some (.lst us) ∧ DpAll K H'' us (acc.map runD), fun _ _ q => q, ?_⟩
    -- if x > y
    refine ⟨_, rfl, _, rfl, _, _, rfl, rfl, _, rfl, ?_⟩
    refine ite2 (fun c4 => ?_) (fun c4 => ?_)
    · have c5 : i > j := by
        have q : (j : Int) < (i : Int) := of_decide_eq_true c4
        omega
      have d := dm_lt c3 c5
      have hq : (i - 1) / j < 2 ^ 4000 := Nat.lt_of_le_of_lt (Nat.le_trans (Nat.div_le_self _ _) (Nat.sub_le _ _)) hi
      refine ⟨_, rfl, .inl ⟨rfl, _, SqL.of hF⟩, _, rfl, _, _, rfl, rfl, _, rfl, _, _, rfl, rfl, okDiv c3 hj, ?_⟩
      dsimp only; rw [cast_div c2]
      refine ⟨(by show 2 ≤ sizeLine; decide), fun p hp => ?_⟩
      have nf : f ≠ p := ne_of_none hF hp
      refine ⟨f, us, .ref p, rfl, rfl, (by rw [upd_ne nf]; exact hF), hlen, ?_⟩
      refine ⟨_, rfl, _, rfl, _, rfl, f, _, _, _, rfl, rfl, SqL.of upd_same, atI_last us _, p, _, _, _, rfl, rfl, SqT.of (by rw [upd_ne nf.symm, upd_same]), at2_1 _ _, _, rfl, _, _, rfl, rfl, okMul hq hj, _, _, rfl, rfl, ?_⟩
      dsimp only; rw [cast_sub]
      exact more true ((i - 1) / j) _ j p hp (by omega) (R_x c3 c5) (Nat.lt_trans d.1 hi) hj
    · have c5 : j > i := by
        have q : ¬ (j : Int) < (i : Int) := of_decide_eq_false (Bool.eq_false_iff.mpr c4)
        omega
      have d := dm_lt c2 c5
      have hq : (j - 1) / i < 2 ^ 4000 := Nat.lt_of_le_of_lt (Nat.le_trans (Nat.div_le_self _ _) (Nat.sub_le _ _)) hj
      refine ⟨_, rfl, .inl ⟨rfl, _, SqL.of hF⟩, _, rfl, _, _, rfl, rfl, _, rfl, _, _, rfl, rfl, okDiv c2 hi, ?_⟩
      dsimp only; rw [cast_div c3]
      refine ⟨(by show 2 ≤ sizeLine; decide), fun p hp => ?_⟩
      have nf : f ≠ p := ne_of_none hF hp
      refine ⟨f, us, .ref p, rfl, rfl, (by rw [upd_ne nf]; exact hF), hlen, ?_⟩
      refine ⟨_, rfl, _, rfl, _, rfl, f, _, _, _, rfl, rfl, SqL.of upd_same, atI_last us _, p, _, _, _, rfl, rfl, SqT.of (by rw [upd_ne nf.symm, upd_same]), at2_1 _ _, _, rfl, _, _, rfl, rfl, okMul hq hi, _, _, rfl, rfl, ?_⟩
      dsimp only; rw [cast_sub]
      exact more false ((j - 1) / i) i _ p hp (by omega) (R_y c2 c5) hi (Nat.lt_trans d.1 hj)

/-! ### _law_of -/
/-- one of the things of a list, whichever -/
def sp__law_of (K : PySem.W.Frag) : Sp := fun vs H Q _ => ∃ (b t : Addr) (xs : List V), vs = [.ref b, .ref t] ∧ Bag H b ∧ t ≠ b ∧ SqL K H t xs ∧ 0 < xs.length ∧ xs.length ≤ 1000 ∧ ∀ (i : Nat) (v : V) (H' : Hp), xs[i]? = some v → Bag H' b → Kp b H H' → Q v H'

theorem sc__law_of : FnScope ["bag", "things"] ["bag", "things"] (defScope s__law_of) := ⟨rfl, rfl, rfl, by decide +kernel, rfl, by decide +kernel, by decide +kernel⟩
theorem ok__law_of (E : En K mg) (G__law_pull : Good P w K mg base CX0 1 "_law_pull" ["bag", "amount"] (sp__law_pull K)) : Good P w K mg base CX0 2 "_law_of" ["bag", "things"] (sp__law_of K) := by
  obtain ⟨fd, F⟩ := E.says.def_ 13 (d := d__law_of) rfl
  refine ⟨fd, ?_, F.bindsN fun _ _ _ _ _ _ us hl => match us, hl with | [_, _], _ => rfl, F.kp, E.gl "_law_of"⟩
  refine F.ok sc__law_of (fun vs H Q E' h => ?_) (fun cdv A outer s H vs Q E' hr h => ?_)
  · obtain ⟨b, t, xs, rfl, _⟩ := h; rfl
  · have hu64 := hu64_of hr
    refine ⟨_, PSs.nox (pss_one (ps_ret (pe_ix ix_list (pv 1) (pe_G G__law_pull (hr.mono (by decide)) rfl pass0 (pa_cons (pv 0) (pa_cons (pe_callB call_len_seq (by rfl) (E.fr "len") (by decide +kernel) (pa_cons (pv 1) pa_nil)) pa_nil))) (fun _ _ => rfl)))), ?_⟩
    obtain ⟨b, t, xs, rfl, B, ne, hS, h0, h1, k⟩ := h
    refine ⟨_, rfl, _, rfl, _, rfl, t, xs, rfl, .inl hS, ?_⟩
    refine ⟨b, _, rfl, B, by omega, by omega, fun r H' r0 r1 B' kp => ?_⟩
    have hi : r.toNat < xs.length := by omega
    have ei : ((r.toNat : Nat) : Int) = r := by omega
    have ha : atI xs r = some xs[r.toNat] := by
      have q : atI xs ((r.toNat : Nat) : Int) = some xs[r.toNat] := atI_nat (List.getElem?_eq_getElem hi)
      rw [ei] at q
      exact q
    exact ⟨t, xs, _, _, rfl, rfl, kp.seq ne hS, ha, k r.toNat _ H' (List.getElem?_eq_getElem hi) B' kp⟩

/-! ### _law_far_pair -/
/-- some pair with runs of up to 10 ** 12 + 1000 letters; the bag alone has changed -/
def sp__law_far_pair (K : PySem.W.Frag) : Sp := fun vs H Q _ => ∃ b : Addr, vs = [.ref b] ∧ Bag H b ∧
  ∀ (v : V) (x y : Nat) (H' : Hp), PairAt K H' v x y → okP x y → (x < 2 ^ 3000 ∧ y < 2 ^ 3000) → Bag H' b → Kp b H H' → Q v H'
def farMid (b : Addr) (H : Hp) : L2.St → Hp → Prop := fun σ H' => ∃ (w k c : Option V) (x y : Nat), σ = [some (.ref b), w, some (.int (x : Int)), some (.int (y : Int)), k, c] ∧ okP x y ∧ (x < 2 ^ 3000 ∧ y < 2 ^ 3000) ∧ Bag H' b ∧ Kp b H H'
theorem far_step {x y c i : Nat} (hx : x < 2 ^ (10 + 50 * i)) (hy : y < 2 ^ (10 + 50 * i)) (hc : c < 2 ^ 41) : x + c * y < 2 ^ (10 + 50 * (i + 1)) := by
  have e : 10 + 50 * (i + 1) = (10 + 50 * i) + 50 := by omega
  rw [e, Nat.pow_add]
  have h1 : c * y ≤ 2 ^ 41 * 2 ^ (10 + 50 * i) := Nat.mul_le_mul (Nat.le_of_lt hc) (Nat.le_of_lt hy)
  have h2 : 0 < 2 ^ (10 + 50 * i) := Nat.pow_pos (by decide)
  omega
theorem far_mono {x i : Nat} (h : x < 2 ^ (10 + 50 * i)) : x < 2 ^ (10 + 50 * (i + 1)) := Nat.lt_of_lt_of_le h (Nat.pow_le_pow_right (by decide) (by omega))
theorem far_counts {xs : List V} {r1 r2 : Int} {j : Nat} {v : V} (e : xs = [.int 1, .int 2, .int 3, .int 7, .int (10 ^ (12 : Int).toNat + r1), .int (10 ^ (8 : Int).toNat + r2)]) (h : xs[j]? = some v) (a1 : 0 ≤ r1) (a2 : r1 < 1000) (b1 : 0 ≤ r2) (b2 : r2 < 97) :
    ∃ c : Nat, v = .int (c : Int) ∧ 0 < c ∧ c < 2 ^ 41 := by
  have e1 : (10 : Int) ^ (12 : Int).toNat = 1000000000000 := by decide
  have e2 : (10 : Int) ^ (8 : Int).toNat = 100000000 := by decide
  rw [e1, e2] at e
  subst e
  have ok : ∀ z : Int, 0 < z → z < 2199023255552 → V.int z = v → ∃ c : Nat, v = .int (c : Int) ∧ 0 < c ∧ c < 2 ^ 41 := fun z h1 h2 e => ⟨z.toNat, by rw [← e, show ((z.toNat : Nat) : Int) = z by omega], by omega, by omega⟩
  match j, h with
  | 0, h => exact ok _ (by omega) (by omega) (Option.some.inj h)
  | 1, h => exact ok _ (by omega) (by omega) (Option.some.inj h)
  | 2, h => exact ok _ (by omega) (by omega) (Option.some.inj h)
  | 3, h => exact ok _ (by omega) (by omega) (Option.some.inj h)
  | 4, h => exact ok _ (by omega) (by omega) (Option.some.inj h)
  | 5, h => exact ok _ (by omega) (by omega) (Option.some.inj h)
theorem two_words {j : Nat} {v : V} (h : ([.str "flat", .str "steep"] : List V)[j]? = some v) : ∃ z : Str, v = .str z := by
  match j, h with
  | 0, h => exact ⟨_, (Option.some.inj h).symm⟩
  | 1, h => exact ⟨_, (Option.some.inj h).symm⟩

theorem sc__law_far_pair : FnScope ["bag", "word", "x", "y", "k", "count"] ["bag"] (defScope s__law_far_pair) := ⟨rfl, rfl, rfl, by decide +kernel, rfl, by decide +kernel, by decide +kernel⟩
theorem ok__law_far_pair (E : En K mg) (G__law_pull : Good P w K mg base CX0 1 "_law_pull" ["bag", "amount"] (sp__law_pull K)) (G__law_of : Good P w K mg base CX0 2 "_law_of" ["bag", "things"] (sp__law_of K)) : Good P w K mg base CX0 3 "_law_far_pair" ["bag"] (sp__law_far_pair K) := by
  obtain ⟨fd, F⟩ := E.says.def_ 14 (d := d__law_far_pair) rfl
  refine ⟨fd, ?_, F.bindsN fun _ _ _ _ _ _ us hl => match us, hl with | [_], _ => rfl, F.kp, E.gl "_law_far_pair"⟩
  refine F.ok sc__law_far_pair (fun vs H Q E' h => ?_) (fun cdv A outer s H vs Q E' hr h => ?_)
  · obtain ⟨b, rfl, _⟩ := h; rfl
  · have hu64 := hu64_of hr
    refine ⟨_, PSs.nox (pss_cons (ps_set (i := 1) sc__law_far_pair.nd rfl (by first | exact Or.inl rfl | exact Or.inr rfl) pe_str)
      (pss_cons (ps_set (i := 2) sc__law_far_pair.nd rfl (by first | exact Or.inl rfl | exact Or.inr rfl) (pe_op op_add pe_int (pe_G G__law_pull (hr.mono (by decide)) rfl pass0 (pa_cons (pv 0) (pa_cons pe_int pa_nil)))))
      (pss_cons (ps_set (i := 3) sc__law_far_pair.nd rfl (by first | exact Or.inl rfl | exact Or.inr rfl) (pv 2))
      (pss_cons (ps_for PassesOwn.never rfl (pi_range1 rfl (E.fr "range") (pa_cons (pe_G G__law_pull (hr.mono (by decide)) rfl pass0 (pa_cons (pv 0) (pa_cons pe_int pa_nil))) pa_nil)) (pg_name (i := 4) sc__law_far_pair.nd rfl (by first | exact Or.inl rfl | exact Or.inr rfl))
        (pss_cons (ps_set (i := 5) sc__law_far_pair.nd rfl (by first | exact Or.inl rfl | exact Or.inr rfl) (pe_G G__law_of (hr.mono (by decide)) rfl pass0 (pa_cons (pv 0) (pa_cons (pe_lst (pa_cons pe_int (pa_cons pe_int (pa_cons pe_int (pa_cons pe_int (pa_cons (pe_op op_add (pe_op op_pow pe_int pe_int) (pe_G G__law_pull (hr.mono (by decide)) rfl pass0 (pa_cons (pv 0) (pa_cons pe_int pa_nil)))) (pa_cons (pe_op op_add (pe_op op_pow pe_int pe_int) (pe_G G__law_pull (hr.mono (by decide)) rfl pass0 (pa_cons (pv 0) (pa_cons pe_int pa_nil)))) pa_nil))))))) pa_nil))))
      (pss_one (ps_if (pt_cmpR op_eq (pe_op op_mod (pe_callTy call_int1 (by rfl) (E.fr "int") (by decide +kernel) (pa_cons (pv 4) pa_nil)) pe_int) pe_int (nomark _))
        (pss_one (ps_set (i := 2) sc__law_far_pair.nd rfl (by first | exact Or.inl rfl | exact Or.inr rfl) (pe_op op_add (pv 2) (pe_op op_mul (pv 5) (pv 3)))))
        (pss_one (ps_set (i := 3) sc__law_far_pair.nd rfl (by first | exact Or.inl rfl | exact Or.inr rfl) (pe_op op_add (pv 3) (pe_op op_mul (pv 5) (pv 2)))))))))
      (C8.pss_cut (ps_if (pt_cmpR op_eq (pe_G G__law_pull (hr.mono (by decide)) rfl pass0 (pa_cons (pv 0) (pa_cons pe_int pa_nil))) pe_int (nomark _))
        (pss_cons (ps_set (i := 1) sc__law_far_pair.nd rfl (by first | exact Or.inl rfl | exact Or.inr rfl) (pe_G G__law_of (hr.mono (by decide)) rfl pass0 (pa_cons (pv 0) (pa_cons (pe_lst (pa_cons pe_str (pa_cons pe_str pa_nil))) pa_nil))))
      (pss_one (ps_asg (pe_ifExp (pt_cmpR op_eq (pv 1) pe_str (nomark _)) (pe_tup (pa_cons (pv 2) (pa_cons pe_int pa_nil))) (pe_tup (pa_cons pe_int (pa_cons (pv 3) pa_nil)))) (pg_tup rfl (pgs_cons (pg_name (i := 2) sc__law_far_pair.nd rfl (by first | exact Or.inl rfl | exact Or.inr rfl)) (pgs_cons (pg_name (i := 3) sc__law_far_pair.nd rfl (by first | exact Or.inl rfl | exact Or.inr rfl)) pgs_nil))))))
        pss_nil)
      (pss_one (ps_ret (pe_ifExp (pt_cmpR op_eq (pe_G G__law_pull (hr.mono (by decide)) rfl pass0 (pa_cons (pv 0) (pa_cons pe_int pa_nil))) pe_int (nomark _)) (pe_tup (pa_cons (pv 2) (pa_cons (pv 3) pa_nil))) (pe_tup (pa_cons (pv 3) (pa_cons (pv 2) pa_nil))))))))))), ?_⟩
    obtain ⟨b, rfl, B, k⟩ := h
    refine ⟨_, rfl, b, _, rfl, B, by decide, by decide, fun r0 H1 r00 r01 B1 k1 => ⟨_, _, rfl, rfl, _, rfl, ?_⟩⟩
    refine ⟨_, rfl, b, _, rfl, B1, by decide, by decide, fun r1 H2 r10 r11 B2 k2 => ⟨_, rfl, by omega, by omega, ?_⟩⟩
    refine for_range (lo := 0) (n := r1.toNat) (fun i σ H' => ∃ (k c : Option V) (x y : Nat), σ = [some (.ref b), some (.str "even"), some (.int (x : Int)), some (.int (y : Int)), k, c] ∧ 0 < x ∧ 0 < y ∧ x < 2 ^ (10 + 50 * i) ∧ y < 2 ^ (10 + 50 * i) ∧ Bag H' b ∧ Kp b H H')
      ⟨none, none, (1 + r0).toNat, (1 + r0).toNat, ?_, by omega, by omega, by omega, by omega, B2, k1.trans k2⟩ ?_ ?_
    · rw [show (((1 + r0).toNat : Nat) : Int) = 1 + r0 by omega]
      rfl
    · rintro i σ H3 hi ⟨k', c, x, y, rfl, hx, hy, bx, bY, B3, k3⟩
      -- count = _law_of(bag, [..])
      refine ⟨_, rfl, _, _, rfl, rfl, ⟨by decide, by decide, by decide⟩, _, rfl, b, _, rfl, B3, by decide, by decide, fun r2 H4 r20 r21 B4 k4 => ⟨_, _, rfl, rfl, ?_⟩⟩
      refine ⟨_, _, rfl, rfl, ⟨by decide, by decide, by decide⟩, _, rfl, b, _, rfl, B4, by decide, by decide, fun r3 H5 r30 r31 B5 k5 => ⟨_, _, rfl, rfl, (by show 6 ≤ sizeLine; decide), fun t ht => ?_⟩⟩
      refine ⟨b, t, _, rfl, B5.keep (same_new ht), B5.ne ht, SqL.of upd_same, (by show 0 < 6; decide), (by show 6 ≤ 1000; decide), fun j v H6 hv B6 k6 => ?_⟩
      obtain ⟨cn, rfl, c0, c1⟩ := far_counts rfl hv r20 r21 r30 r31
      have kk : Kp b H H6 := k3.trans (k4.trans ((k5.new ht).trans k6))
      refine ⟨_, rfl, .inl ⟨_, rfl, _, _, rfl, rfl, (by show (0 : Int) < 2; decide), rfl, _, rfl, ?_⟩⟩
      refine ite2 (fun _ => ?_) (fun _ => ?_)
      · refine ⟨_, rfl, _, rfl, _, rfl, _, _, rfl, rfl, .inl ⟨by omega, by omega⟩, _, _, rfl, rfl, ?_⟩
        refine ⟨some (.int (0 + (i : Int))), some (.int (cn : Int)), x + cn * y, y, ?_, by omega, hy, far_step bx bY c1, far_mono bY, B6, kk⟩
        rw [Int.natCast_add, Int.natCast_mul]
        rfl
      · refine ⟨_, rfl, _, rfl, _, rfl, _, _, rfl, rfl, .inl ⟨by omega, by omega⟩, _, _, rfl, rfl, ?_⟩
        refine ⟨some (.int (0 + (i : Int))), some (.int (cn : Int)), x, y + cn * x, ?_, hx, by omega, far_mono bx, far_step bY bx c1, B6, kk⟩
        rw [Int.natCast_add, Int.natCast_mul]
        rfl
    · rintro σ H3 ⟨k', c, x, y, rfl, hx, hy, bx, bY, B3, k3⟩
      have big : ∀ z : Nat, z < 2 ^ (10 + 50 * r1.toNat) → z < 2 ^ 4000 := fun z h => Nat.lt_of_lt_of_le h (Nat.pow_le_pow_right (by decide) (by omega))
      have big3 : ∀ z : Nat, z < 2 ^ (10 + 50 * r1.toNat) → z < 2 ^ 3000 := fun z h => Nat.lt_of_lt_of_le h (Nat.pow_le_pow_right (by decide) (by omega))
      have p3 : 0 < 2 ^ 3000 := Nat.pow_pos (by decide)
      have okxy : okP x y := ⟨by omega, big x bx, big y bY⟩
      have bxy : x < 2 ^ 3000 ∧ y < 2 ^ 3000 := ⟨big3 x bx, big3 y bY⟩
      refine ⟨farMid b H, ?_, ?_⟩
      · refine ⟨_, rfl, b, _, rfl, B3, by decide, by decide, fun r4 H4 _ _ B4 k4 => ⟨rfl, _, rfl, ?_⟩⟩
        have k34 := k3.trans k4
        refine ite2 (fun _ => ?_) (fun _ => ⟨_, _, _, x, y, rfl, okxy, bxy, B4, k34⟩)
        refine ⟨_, rfl, (by show 2 ≤ sizeLine; decide), fun t ht => ?_⟩
        refine ⟨b, t, _, rfl, B4.keep (same_new ht), B4.ne ht, SqL.of upd_same, (by show 0 < 2; decide), (by show 2 ≤ 1000; decide), fun j v H5 hv B5 k5 => ?_⟩
        obtain ⟨z, rfl⟩ := two_words hv
        have k35 := (k34.new ht).trans k5
        refine ⟨_, rfl, rfl, _, rfl, ?_⟩
        refine ite2 (fun _ => ?_) (fun _ => ?_)
        · refine ⟨_, rfl, (by show 2 ≤ sizeLine; decide), fun p hp => ⟨p, _, rfl, SqT.of upd_same, rfl, _, _, rfl, _, _, rfl, rfl, ?_⟩⟩
          exact ⟨_, _, _, x, 0, rfl, ⟨by omega, okxy.2.1, Nat.pow_pos (by decide)⟩, ⟨bxy.1, p3⟩, B5.keep (same_new hp), k35.new hp⟩
        · refine ⟨_, rfl, (by show 2 ≤ sizeLine; decide), fun p hp => ⟨p, _, rfl, SqT.of upd_same, rfl, _, _, rfl, _, _, rfl, rfl, ?_⟩⟩
          exact ⟨_, _, _, 0, y, rfl, ⟨by omega, Nat.pow_pos (by decide), okxy.2.2⟩, ⟨p3, bxy.2⟩, B5.keep (same_new hp), k35.new hp⟩
      · rintro σ H4 ⟨w', k'', c', x, y, rfl, ok, b3, B4, k4⟩
        refine ⟨_, rfl, b, _, rfl, B4, by decide, by decide, fun r5 H5 _ _ B5 k5 => ⟨rfl, _, rfl, ?_⟩⟩
        refine ite2 (fun _ => ?_) (fun _ => ?_)
        · refine ⟨_, rfl, _, rfl, (by show 2 ≤ sizeLine; decide), fun p hp => ?_⟩
          exact k _ x y _ ⟨p, rfl, SqT.of upd_same⟩ ok b3 (B5.keep (same_new hp)) ((k4.trans k5).new hp)
        · refine ⟨_, rfl, _, rfl, (by show 2 ≤ sizeLine; decide), fun p hp => ?_⟩
          exact k _ y x _ ⟨p, rfl, SqT.of upd_same⟩ ⟨fun h => ok.1 ⟨h.2, h.1⟩, ok.2.2, ok.2.1⟩ b3.symm (B5.keep (same_new hp)) ((k4.trans k5).new hp)

/-! ### _law_gcd -/
def sp__law_gcd (K : PySem.W.Frag) : Sp := fun vs H Q _ => ∃ x y : Nat, vs = [.int (x : Int), .int (y : Int)] ∧ Q (.int ((Nat.gcd x y : Nat) : Int)) H

theorem sc__law_gcd : FnScope ["x", "y"] ["x", "y"] (defScope s__law_gcd) := ⟨rfl, rfl, rfl, by decide +kernel, rfl, by decide +kernel, by decide +kernel⟩
theorem ok__law_gcd (E : En K mg) : Good P w K mg base CX0 1 "_law_gcd" ["x", "y"] (sp__law_gcd K) := by
  obtain ⟨fd, F⟩ := E.says.def_ 15 (d := d__law_gcd) rfl
  refine ⟨fd, ?_, F.bindsN fun _ _ _ _ _ _ us hl => match us, hl with | [_, _], _ => rfl, F.kp, E.gl "_law_gcd"⟩
  refine F.ok sc__law_gcd (fun vs H Q E' h => ?_) (fun cdv A outer s H vs Q E' hr h => ?_)
  · obtain ⟨x, y, rfl, _⟩ := h; rfl
  · have hu64 := hu64_of hr
    refine ⟨_, PSs.nox (pss_cons (ps_while PassesOwn.never (pt_cmpR op_gt (pv 1) pe_int (nomark _))
        (pss_one (ps_par (i := 0) (j := 1) rfl sc__law_gcd.nd rfl rfl (by decide) rfl rfl (pa_cons (pv 1) (pa_cons (pe_op op_mod (pe_callTy call_int1 (by rfl) (E.fr "int") (by decide +kernel) (pa_cons (pv 0) pa_nil)) (pv 1)) pa_nil)) rfl)))
      (pss_one (ps_ret (pv 0)))), ?_⟩
    obtain ⟨x, y, rfl, k⟩ := h
    refine ⟨fun m σ H' => ∃ a b : Nat, m = b ∧ σ = [some (.int (a : Int)), some (.int (b : Int))] ∧ H' = H ∧ Nat.gcd a b = Nat.gcd x y, ⟨y, x, y, rfl, rfl, rfl, rfl⟩, ?_⟩
    rintro m σ H' ⟨a, b, rfl, rfl, rfl, hg⟩
    refine ⟨_, rfl, _, _, rfl, rfl, _, rfl, ?_⟩
    refine ite2 (fun c => ?_) (fun c => ?_)
    · have c' : (0 : Int) < (m : Int) := of_decide_eq_true c
      refine ⟨fun σ' H'' => ∃ m', m' < m ∧ ∃ a b : Nat, m' = b ∧ σ' = [some (.int (a : Int)), some (.int (b : Int))] ∧ H'' = H' ∧ Nat.gcd a b = Nat.gcd x y, fun _ _ q => q, ?_⟩
      refine ⟨_, rfl, _, rfl, .inl ⟨_, rfl, _, rfl, _, _, rfl, rfl, c', _, _, rfl, ?_⟩⟩
      refine ⟨a % m, Nat.mod_lt _ (by omega), m, a % m, rfl, ?_, rfl, ?_⟩
      · show [some (V.int (m : Int)), some (V.int ((a : Int) % (m : Int)))] = _
        rw [Int.natCast_emod]
      · rw [← hg, Nat.gcd_comm m, Nat.gcd_comm a m, ← Nat.gcd_rec]
    · have c' : ¬ (0 : Int) < (m : Int) := of_decide_eq_false (Bool.eq_false_iff.mpr c)
      have e : m = 0 := by omega
      subst e
      rw [Nat.gcd_zero_right] at hg
      refine ⟨_, rfl, ?_⟩
      show Q (.int (a : Int)) H'
      rw [hg]
      exact k

/-! ### _law_bottom -/
def sp__law_bottom (K : PySem.W.Frag) : Sp := fun vs H Q _ => ∃ (v : V) (x y : Nat), vs = [v] ∧ PairAt K H v x y ∧ Q (.str (bot x y)) H

theorem sc__law_bottom : FnScope ["pair"] ["pair"] (defScope s__law_bottom) := ⟨rfl, rfl, rfl, by decide +kernel, rfl, by decide +kernel, by decide +kernel⟩
theorem ok__law_bottom (E : En K mg) : Good P w K mg base CX0 1 "_law_bottom" ["pair"] (sp__law_bottom K) := by
  obtain ⟨fd, F⟩ := E.says.def_ 16 (d := d__law_bottom) rfl
  refine ⟨fd, ?_, F.bindsN fun _ _ _ _ _ _ us hl => match us, hl with | [_], _ => rfl, F.kp, E.gl "_law_bottom"⟩
  refine F.ok sc__law_bottom (fun vs H Q E' h => ?_) (fun cdv A outer s H vs Q E' hr h => ?_)
  · obtain ⟨v, x, y, rfl, _⟩ := h; rfl
  · have hu64 := hu64_of hr
    refine ⟨_, PSs.nox (pss_cons (ps_if (pt_cmpR op_eq (pe_ix ix_tup (pv 0) pe_int (fun _ _ => rfl)) pe_int (nomark _))
        (pss_one (ps_ret pe_str))
        pss_nil)
      (pss_one (ps_ret (pe_ifExp (pt_cmpR op_eq (pe_ix ix_tup (pv 0) pe_int (fun _ _ => rfl)) pe_int (nomark _)) pe_str pe_str)))), ?_⟩
    obtain ⟨v, x, y, rfl, ⟨a, rfl, hS⟩, q⟩ := h
    refine ⟨_, rfl, a, _, _, _, rfl, rfl, hS, at2_1 _ _, rfl, _, rfl, ?_⟩
    unfold bot at q
    by_cases hy : y = 0
    · rw [if_pos hy] at q
      exact ite_t (deq (by omega)) q
    · rw [if_neg hy] at q
      refine ite_f (dne (by omega)) ⟨_, rfl, a, _, _, _, rfl, rfl, hS, at2_0 _ _, rfl, _, rfl, ?_⟩
      by_cases hx : x = 0
      · rw [if_pos hx] at q
        exact ite_t (deq (by omega)) q
      · rw [if_neg hx] at q
        exact ite_f (dne (by omega)) q

/-! ### _law_letters -/
def sp__law_letters (K : PySem.W.Frag) : Sp := fun vs H Q _ => ∃ (v : V) (x y : Nat), vs = [v] ∧ PairAt K H v x y ∧ (L x y).length ≤ 1000 ∧ Q (.str (sgn (L x y))) H

theorem sc__law_letters : FnScope ["pair", "x", "y", "found"] ["pair"] (defScope s__law_letters) := ⟨rfl, rfl, rfl, by decide +kernel, rfl, by decide +kernel, by decide +kernel⟩
theorem ok__law_letters (E : En K mg) : Good P w K mg base CX0 1 "_law_letters" ["pair"] (sp__law_letters K) := by
  obtain ⟨fd, F⟩ := E.says.def_ 17 (d := d__law_letters) rfl
  refine ⟨fd, ?_, F.bindsN fun _ _ _ _ _ _ us hl => match us, hl with | [_], _ => rfl, F.kp, E.gl "_law_letters"⟩
  refine F.ok sc__law_letters (fun vs H Q E' h => ?_) (fun cdv A outer s H vs Q E' hr h => ?_)
  · obtain ⟨v, x, y, rfl, _⟩ := h; rfl
  · have hu64 := hu64_of hr
    refine ⟨_, PSs.nox (pss_cons (ps_asg (pv 0) (pg_tup rfl (pgs_cons (pg_name (i := 1) sc__law_letters.nd rfl (by first | exact Or.inl rfl | exact Or.inr rfl)) (pgs_cons (pg_name (i := 2) sc__law_letters.nd rfl (by first | exact Or.inl rfl | exact Or.inr rfl)) pgs_nil))))
      (pss_cons (ps_set (i := 3) sc__law_letters.nd rfl (by first | exact Or.inl rfl | exact Or.inr rfl) pe_str)
      (pss_cons (ps_while PassesOwn.never (PW.pt (pw_and (pt_cmpR op_gt (pv 1) pe_int (nomark _)) (pw_and (pt_cmpR op_gt (pv 2) pe_int (nomark _)) (pw_and1 (pt_cmpR op_ne (pv 1) (pv 2) (nomark _))))))
        (pss_one (ps_if (pt_cmpR op_gt (pv 1) (pv 2) (nomark _))
        (pss_one (ps_par (i := 3) (j := 1) rfl sc__law_letters.nd rfl rfl (by decide) rfl rfl (pa_cons (pe_op op_add_str (pv 3) pe_str) (pa_cons (pe_op op_sub (pv 1) (pv 2)) pa_nil)) rfl))
        (pss_one (ps_par (i := 3) (j := 2) rfl sc__law_letters.nd rfl rfl (by decide) rfl rfl (pa_cons (pe_op op_add_str (pv 3) pe_str) (pa_cons (pe_op op_sub (pv 2) (pv 1)) pa_nil)) rfl)))))
      (pss_one (ps_ret (pv 3)))))), ?_⟩
    obtain ⟨v, x, y, rfl, ⟨a, rfl, hS⟩, hb, k⟩ := h
    refine ⟨_, rfl, a, _, rfl, hS, rfl, _, _, rfl, _, _, rfl, rfl, ?_⟩
    refine ⟨fun m σ H' => ∃ (i j : Nat) (acc : List Bool), m = i + j ∧ σ = [some (.ref a), some (.int (i : Int)), some (.int (j : Int)), some (.str (sgn acc))] ∧ acc ++ L i j = L x y ∧ H' = H, ⟨x + y, x, y, [], rfl, by rw [sgn_nil]; rfl, rfl, rfl⟩, ?_⟩
    rintro m σ H' ⟨i, j, acc, rfl, rfl, hR, rfl⟩
    have fin : L i j = [] → Q (.str (sgn acc)) H' := fun z => by
      rw [z, List.append_nil] at hR
      rw [hR]
      exact k
    have hlen : (sgn acc).length + 1 ≤ sizeLine := by
      have h1 := hb
      rw [← hR, List.length_append] at h1
      rw [sgn_len]
      exact sz (by omega)
    refine ⟨_, rfl, _, _, rfl, rfl, _, rfl, ?_⟩
    by_cases c2 : 0 < i
    rotate_left
    · exact ite_f (decide_eq_false (by omega)) (ite_f rfl ⟨_, rfl, fin (L_nil (by omega))⟩)
    refine ite_t (decide_eq_true (by omega)) ⟨_, rfl, _, _, rfl, rfl, _, rfl, ?_⟩
    by_cases c3 : 0 < j
    rotate_left
    · exact ite_f (decide_eq_false (by omega)) (ite_f rfl ⟨_, rfl, fin (L_nil (by omega))⟩)
    refine ite_t (decide_eq_true (by omega)) ⟨_, rfl, _, rfl, rfl, _, rfl, ?_⟩
    by_cases c1 : i = j
    · exact ite_f (by rw [deq (by omega)]; rfl) ⟨_, rfl, fin (L_nil (by omega))⟩
    refine ite_t (by rw [dne (by omega)]; rfl) ⟨fun σ' H'' => ∃ m', m' < i + j ∧ ∃ (i j : Nat) (acc : List Bool), m' = i + j ∧ σ' = [some (.ref a), some (.int (i : Int)), some (.int (j : Int)), some (.str (sgn acc))] ∧ acc ++ L i j = L x y ∧ H'' = H', fun _ _ q => q, ?_⟩
    refine ⟨_, rfl, _, rfl, _, _, rfl, rfl, _, rfl, ?_⟩
    refine ite2 (fun c4 => ?_) (fun c4 => ?_)
    · have c5 : i > j := by
        have q : (j : Int) < (i : Int) := of_decide_eq_true c4
        omega
      refine ⟨_, rfl, _, _, rfl, rfl, hlen, _, rfl, _, rfl, _, _, rfl, rfl, _, _, rfl, ?_⟩
      refine ⟨i - j + j, by omega, i - j, j, acc ++ [true], rfl, ?_, ?_, rfl⟩
      · show [_, some (V.int ((i : Int) - (j : Int))), _, some (V.str (sgn acc ++ ("X" : Str)))] = _
        rw [sgn_x, Int.ofNat_sub (by omega)]
      · rw [← hR, L_x c3 c5, List.append_assoc]
        rfl
    · have c5 : j > i := by
        have q : ¬ (j : Int) < (i : Int) := of_decide_eq_false (Bool.eq_false_iff.mpr c4)
        omega
      refine ⟨_, rfl, _, _, rfl, rfl, hlen, _, rfl, _, rfl, _, _, rfl, rfl, _, _, rfl, ?_⟩
      refine ⟨i + (j - i), by omega, i, j - i, acc ++ [false], rfl, ?_, ?_, rfl⟩
      · show [_, _, some (V.int ((j : Int) - (i : Int))), some (V.str (sgn acc ++ ("Y" : Str)))] = _
        rw [sgn_y, Int.ofNat_sub (by omega)]
      · rw [← hR, L_y c2 c5, List.append_assoc]
        rfl

/-! ### _law_key -/
/-- the law's key of a pair -/
def sp__law_key (K : PySem.W.Frag) : Sp := fun vs H Q _ => ∃ (v : V) (x y : Nat), vs = [v] ∧ PairAt K H v x y ∧ (L x y).length ≤ 1000 ∧
  ∀ (t : Addr) (H' : Hp), Same H H' → H' t = some (.tup [.int (((L x y).length : Nat) : Int), .str (sgn (L x y).reverse), .int ((botI x y : Nat) : Int), .int ((Nat.gcd x y : Nat) : Int)]) → Q (.ref t) H'
theorem bot_ix (x y : Nat) : ([V.str "even", .str "flat", .str "steep"] : List V)[botI x y]? = some (.str (bot x y)) := by
  unfold botI bot
  by_cases hy : y = 0
  · rw [if_pos hy, if_pos hy]; rfl
  · rw [if_neg hy, if_neg hy]
    by_cases hx : x = 0
    · rw [if_pos hx, if_pos hx]; rfl
    · rw [if_neg hx, if_neg hx]; rfl
theorem bot_before (x y : Nat) : ∀ m z', m < botI x y → ([V.str "even", .str "flat", .str "steep"] : List V)[m]? = some z' → eqV z' (.str (bot x y)) = false := by
  unfold botI bot
  intro m z' hm hz
  by_cases hy : y = 0
  · rw [if_pos hy] at hm ⊢
    match m, hm with
    | 0, _ => cases hz; decide +kernel
  · rw [if_neg hy] at hm ⊢
    by_cases hx : x = 0
    · rw [if_pos hx] at hm ⊢
      match m, hm with
      | 0, _ => cases hz; decide +kernel
      | 1, _ => cases hz; decide +kernel
    · rw [if_neg hx] at hm
      exact absurd hm (Nat.not_lt_zero m)
theorem bot_eqV (x y : Nat) : eqV (.str (bot x y)) (.str (bot x y)) = true := by
  rcases bot_cases x y with h | h | h <;> rw [h] <;> decide +kernel

theorem sc__law_key : FnScope ["pair", "word"] ["pair"] (defScope s__law_key) := ⟨rfl, rfl, rfl, by decide +kernel, rfl, by decide +kernel, by decide +kernel⟩
theorem ok__law_key (E : En K mg) (G__law_gcd : Good P w K mg base CX0 1 "_law_gcd" ["x", "y"] (sp__law_gcd K)) (G__law_bottom : Good P w K mg base CX0 1 "_law_bottom" ["pair"] (sp__law_bottom K)) (G__law_letters : Good P w K mg base CX0 1 "_law_letters" ["pair"] (sp__law_letters K)) : Good P w K mg base CX0 2 "_law_key" ["pair"] (sp__law_key K) := by
  obtain ⟨fd, F⟩ := E.says.def_ 18 (d := d__law_key) rfl
  refine ⟨fd, ?_, F.bindsN fun _ _ _ _ _ _ us hl => match us, hl with | [_], _ => rfl, F.kp, E.gl "_law_key"⟩
  refine F.ok sc__law_key (fun vs H Q E' h => ?_) (fun cdv A outer s H vs Q E' hr h => ?_)
  · obtain ⟨v, x, y, rfl, _⟩ := h; rfl
  · have hu64 := hu64_of hr
    refine ⟨_, PSs.nox (pss_cons (ps_set (i := 1) sc__law_key.nd rfl (by first | exact Or.inl rfl | exact Or.inr rfl) (pe_G G__law_letters (hr.mono (by decide)) rfl pass0 (pa_cons (pv 0) pa_nil)))
      (pss_one (ps_ret (pe_tup (pa_cons (pe_callB call_len_str (by rfl) (E.fr "len") (by decide +kernel) (pa_cons (pv 1) pa_nil)) (pa_cons (pe_revS (pv 1)) (pa_cons (pe_bm PySem.F.plainAttrs_list PySem.F.slot_list_index PySem.F.type_list_index mt_index (pe_lst (pa_cons pe_str (pa_cons pe_str (pa_cons pe_str pa_nil)))) (pa_cons (pe_G G__law_bottom (hr.mono (by decide)) rfl pass0 (pa_cons (pv 0) pa_nil)) pa_nil)) (pa_cons (pe_G G__law_gcd (hr.mono (by decide)) rfl pass0 (pa_cons (pe_ix ix_tup (pv 0) pe_int (fun _ _ => rfl)) (pa_cons (pe_ix ix_tup (pv 0) pe_int (fun _ _ => rfl)) pa_nil))) pa_nil)))))))), ?_⟩
    obtain ⟨v, x, y, rfl, ⟨a, rfl, hS⟩, hlen, k⟩ := h
    have s3 : 3 ≤ sizeLine := by decide
    have s4 : 4 ≤ sizeLine := by decide
    have lw : (sgn (L x y)).length ≤ sizeLine := by rw [sgn_len]; exact sz (by omega)
    refine ⟨_, rfl, .ref a, x, y, rfl, ⟨a, rfl, hS⟩, hlen, ?_⟩
    refine ⟨_, rfl, _, rfl, lw, _, rfl, _, rfl, lw, s3, fun l hl => ?_⟩
    have e1 := same_new (o := .lst [.str "even", .str "flat", .str "steep"]) hl
    refine ⟨.inl ⟨rfl, _, SqL.of upd_same⟩, _, rfl, .ref a, x, y, rfl, ⟨a, rfl, seqT e1 hS⟩, ?_⟩
    refine ⟨l, _, .str (bot x y), botI x y, .str (bot x y), rfl, rfl, SqL.of upd_same, rfl, (by first | rfl | decide), bot_ix x y, bot_eqV x y, bot_before x y, ?_⟩
    refine ⟨_, rfl, a, _, _, _, rfl, rfl, seqT e1 hS, at2_0 _ _, _, rfl, a, _, _, _, rfl, rfl, seqT e1 hS, at2_1 _ _, x, y, rfl, s4, fun t ht => ?_⟩
    refine k t _ (e1.trans (same_new ht)) ?_
    rw [upd_same, revS_sgn, sgn_len]

/-! ### _law_grown -/
/-- a pair grown letter by letter from a pair of equal small numbers -/
def sp__law_grown (K : PySem.W.Frag) : Sp := fun vs H Q _ => ∃ (v : V) (g : Nat) (z : Str), vs = [v, .str z] ∧ PairAt K H v g g ∧ 0 < g ∧ g ≤ 2 ∧ z.length ≤ 1000 ∧
  ∀ (t : Addr) (u w : Nat) (H' : Hp), Same H H' → PairAt K H' (.ref t) u w → okP u w → (L u w).length ≤ 1000 → Q (.ref t) H'

theorem sc__law_grown : FnScope ["pair", "word", "x", "y", "letter"] ["pair", "word"] (defScope s__law_grown) := ⟨rfl, rfl, rfl, by decide +kernel, rfl, by decide +kernel, by decide +kernel⟩
theorem ok__law_grown (E : En K mg) : Good P w K mg base CX0 1 "_law_grown" ["pair", "word"] (sp__law_grown K) := by
  obtain ⟨fd, F⟩ := E.says.def_ 19 (d := d__law_grown) rfl
  refine ⟨fd, ?_, F.bindsN fun _ _ _ _ _ _ us hl => match us, hl with | [_, _], _ => rfl, F.kp, E.gl "_law_grown"⟩
  refine F.ok sc__law_grown (fun vs H Q E' h => ?_) (fun cdv A outer s H vs Q E' hr h => ?_)
  · obtain ⟨v, g, z, rfl, _⟩ := h; rfl
  · have hu64 := hu64_of hr
    refine ⟨_, PSs.nox (pss_cons (ps_asg (pv 0) (pg_tup rfl (pgs_cons (pg_name (i := 2) sc__law_grown.nd rfl (by first | exact Or.inl rfl | exact Or.inr rfl)) (pgs_cons (pg_name (i := 3) sc__law_grown.nd rfl (by first | exact Or.inl rfl | exact Or.inr rfl)) pgs_nil))))
      (pss_cons (ps_for PassesOwn.never rfl (pi_str (pv 1)) (pg_name (i := 4) sc__law_grown.nd rfl (by first | exact Or.inl rfl | exact Or.inr rfl))
        (pss_one (ps_if (pt_cmpR op_eq (pv 4) pe_str (nomark _))
        (pss_one (ps_set (i := 2) sc__law_grown.nd rfl (by first | exact Or.inl rfl | exact Or.inr rfl) (pe_op op_add (pv 2) (pv 3))))
        (pss_one (ps_set (i := 3) sc__law_grown.nd rfl (by first | exact Or.inl rfl | exact Or.inr rfl) (pe_op op_add (pv 3) (pv 2)))))))
      (pss_one (ps_ret (pe_tup (pa_cons (pv 2) (pa_cons (pv 3) pa_nil))))))), ?_⟩
    obtain ⟨v, g, z, rfl, ⟨a, rfl, hS⟩, g0, g2, hz, k⟩ := h
    have s2 : 2 ≤ sizeLine := by decide
    refine ⟨_, rfl, a, _, rfl, hS, rfl, _, _, rfl, _, _, rfl, rfl, ?_⟩
    refine ⟨_, rfl, z, rfl, for_it walk_str (fun i σ H' => ∃ (x y : Nat) (s4 : Option V), σ = [some (.ref a), some (.str z), some (.int (x : Int)), some (.int (y : Int)), s4] ∧ H' = H ∧ 0 < x ∧ 0 < y ∧ x < 2 ^ (2 + i) ∧ y < 2 ^ (2 + i) ∧ (L x y).length = i)
      ⟨g, g, _, rfl, rfl, g0, g0, by omega, by omega, by rw [L_nil (by omega)]; rfl⟩ (fun _ _ _ _ _ => trivial) ?_ ?_⟩
    · rintro i v σ H1 H2 hi ⟨x, y, _, rfl, rfl, hx, hy, bx, bY, hl⟩ ⟨rfl, c, hc, rfl⟩
      have e2 : 2 ^ (2 + (i + 1)) = 2 ^ (2 + i) + 2 ^ (2 + i) := by rw [show 2 + (i + 1) = (2 + i) + 1 by omega, Nat.pow_succ, Nat.mul_two]
      refine ⟨_, rfl, rfl, _, rfl, ?_⟩
      refine ite2 (fun _ => ?_) (fun _ => ?_)
      · refine ⟨_, rfl, _, rfl, _, _, rfl, rfl, x + y, y, some (.str ⟨#[c]⟩), ?_, rfl, by omega, hy, by omega, by omega, ?_⟩
        · rw [Int.natCast_add]; rfl
        · rw [L_x hy (by omega), Nat.add_sub_cancel, List.length_cons, hl]
      · refine ⟨_, rfl, _, rfl, _, _, rfl, rfl, x, y + x, some (.str ⟨#[c]⟩), ?_, rfl, hx, by omega, by omega, by omega, ?_⟩
        · rw [Int.natCast_add]; rfl
        · rw [L_y hx (by omega), Nat.add_sub_cancel, List.length_cons, hl]
    · rintro σ H1 ⟨x, y, _, rfl, rfl, hx, hy, bx, bY, hl⟩
      have hz' : z.cps.size ≤ 1000 := hz
      have big : ∀ {n : Nat}, n < 2 ^ (2 + z.cps.size) → n < 2 ^ 4000 := fun h => Nat.lt_of_lt_of_le h (Nat.pow_le_pow_right (by decide) (by omega))
      refine ⟨_, rfl, _, rfl, s2, fun t ht => ?_⟩
      exact k t x y _ (same_new ht) ⟨t, rfl, SqT.of upd_same⟩ ⟨by omega, big bx, big bY⟩ (by omega)

/-! ### _law_pair -/
/-- some pair; the bag alone has changed -/
def sp__law_pair (K : PySem.W.Frag) : Sp := fun vs H Q _ => ∃ (b : Addr) (n : Nat), vs = [.ref b, .int (n : Int)] ∧ Bag H b ∧ 0 < n ∧ n < 100000 ∧
  ∀ (v : V) (x y : Nat) (H' : Hp), PairAt K H' v x y → ¬ (x = 0 ∧ y = 0) → x ≤ n + 3 → y ≤ n + 3 → Bag H' b → Kp b H H' → Q v H'

theorem sc__law_pair : FnScope ["bag", "top_z", "kind", "x", "y"] ["bag", "top_z"] (defScope s__law_pair) := ⟨rfl, rfl, rfl, by decide +kernel, rfl, by decide +kernel, by decide +kernel⟩
theorem ok__law_pair (E : En K mg) (G__law_pull : Good P w K mg base CX0 1 "_law_pull" ["bag", "amount"] (sp__law_pull K)) : Good P w K mg base CX0 2 "_law_pair" ["bag", "top_z"] (sp__law_pair K) := by
  obtain ⟨fd, F⟩ := E.says.def_ 20 (d := d__law_pair) rfl
  refine ⟨fd, ?_, F.bindsN fun _ _ _ _ _ _ us hl => match us, hl with | [_, _], _ => rfl, F.kp, E.gl "_law_pair"⟩
  refine F.ok sc__law_pair (fun vs H Q E' h => ?_) (fun cdv A outer s H vs Q E' hr h => ?_)
  · obtain ⟨b, n, rfl, _⟩ := h; rfl
  · have hu64 := hu64_of hr
    refine ⟨_, PSs.nox (pss_cons (ps_set (i := 2) sc__law_pair.nd rfl (by first | exact Or.inl rfl | exact Or.inr rfl) (pe_G G__law_pull (hr.mono (by decide)) rfl pass0 (pa_cons (pv 0) (pa_cons pe_int pa_nil))))
      (pss_cons (ps_par (i := 3) (j := 4) rfl sc__law_pair.nd rfl rfl (by decide) rfl rfl (pa_cons (pe_op op_add pe_int (pe_G G__law_pull (hr.mono (by decide)) rfl pass0 (pa_cons (pv 0) (pa_cons (pv 1) pa_nil)))) (pa_cons (pe_op op_add pe_int (pe_G G__law_pull (hr.mono (by decide)) rfl pass0 (pa_cons (pv 0) (pa_cons (pv 1) pa_nil)))) pa_nil)) rfl)
      (pss_cons (ps_if (pt_cmpR op_eq (pv 2) pe_int (nomark _))
        (pss_one (ps_ret (pe_tup (pa_cons (pv 3) (pa_cons pe_int pa_nil)))))
        pss_nil)
      (pss_cons (ps_if (pt_cmpR op_eq (pv 2) pe_int (nomark _))
        (pss_one (ps_ret (pe_tup (pa_cons pe_int (pa_cons (pv 4) pa_nil)))))
        pss_nil)
      (pss_cons (ps_if (pt_cmpR op_eq (pv 2) pe_int (nomark _))
        (pss_one (ps_ret (pe_tup (pa_cons (pv 3) (pa_cons (pv 3) pa_nil)))))
        pss_nil)
      (pss_cons (ps_if (pt_cmpR op_eq (pv 2) pe_int (nomark _))
        (pss_one (ps_ret (pe_tup (pa_cons (pv 3) (pa_cons (pe_op op_add pe_int (pe_G G__law_pull (hr.mono (by decide)) rfl pass0 (pa_cons (pv 0) (pa_cons pe_int pa_nil)))) pa_nil)))))
        pss_nil)
      (pss_cons (ps_if (pt_cmpR op_eq (pv 2) pe_int (nomark _))
        (pss_one (ps_ret (pe_tup (pa_cons (pe_op op_add pe_int (pe_G G__law_pull (hr.mono (by decide)) rfl pass0 (pa_cons (pv 0) (pa_cons pe_int pa_nil)))) (pa_cons (pv 4) pa_nil)))))
        pss_nil)
      (pss_one (ps_ret (pe_tup (pa_cons (pv 3) (pa_cons (pv 4) pa_nil)))))))))))), ?_⟩
    obtain ⟨b, n, rfl, B, hn, hn2, k⟩ := h
    refine ⟨_, rfl, b, _, rfl, B, by decide, by decide, fun r1 H1 _ _ B1 k1 => ?_⟩
    refine ⟨_, rfl, _, rfl, b, _, rfl, B1, by omega, by omega, fun x H2 x0 x1 B2 k2 => ⟨_, _, rfl, rfl, _, rfl, _, rfl, b, _, rfl, B2, by omega, by omega, fun y H3 y0 y1 B3 k3 => ⟨_, _, rfl, rfl, _, _, rfl, ?_⟩⟩⟩
    have kk := k1.trans (k2.trans k3)
    have fin : ∀ (X Y : Int) (H' : Hp), 0 ≤ X → 0 ≤ Y → X + Y ≠ 0 → X ≤ n + 3 → Y ≤ n + 3 → Bag H' b → Kp b H H' → ∀ p, H' p = none → Q (.ref p) (upd H' p (.tup [.int X, .int Y])) := fun X Y H' h1 h2 h3 h4 h5 B' k' p hp => by
      refine k _ X.toNat Y.toNat _ ⟨p, rfl, SqT.of ?_⟩ (by omega) (by omega) (by omega) (B'.keep (same_new hp)) (k'.new hp)
      rw [upd_same, show ((X.toNat : Nat) : Int) = X by omega, show ((Y.toNat : Nat) : Int) = Y by omega]
    have s2 : 2 ≤ sizeLine := by decide
    refine ⟨_, rfl, rfl, _, rfl, ?_⟩
    refine ite2 (fun _ => ⟨_, rfl, s2, fin _ _ H3 (by omega) (by omega) (by omega) (by omega) (by omega) B3 kk⟩) (fun _ => ?_)
    refine ⟨_, rfl, rfl, _, rfl, ?_⟩
    refine ite2 (fun _ => ⟨_, rfl, s2, fin _ _ H3 (by omega) (by omega) (by omega) (by omega) (by omega) B3 kk⟩) (fun _ => ?_)
    refine ⟨_, rfl, rfl, _, rfl, ?_⟩
    refine ite2 (fun _ => ⟨_, rfl, _, rfl, s2, fin _ _ H3 (by omega) (by omega) (by omega) (by omega) (by omega) B3 kk⟩) (fun _ => ?_)
    refine ⟨_, rfl, rfl, _, rfl, ?_⟩
    refine ite2 (fun _ => ⟨_, rfl, _, rfl, b, _, rfl, B3, by decide, by decide, fun z H4 z0 z1 B4 k4 => ⟨_, _, rfl, rfl, s2, fin _ _ H4 (by omega) (by omega) (by omega) (by omega) (by omega) B4 (kk.trans k4)⟩⟩) (fun _ => ?_)
    refine ⟨_, rfl, rfl, _, rfl, ?_⟩
    refine ite2 (fun _ => ⟨_, rfl, b, _, rfl, B3, by decide, by decide, fun z H4 z0 z1 B4 k4 => ⟨_, _, rfl, rfl, _, rfl, s2, fin _ _ H4 (by omega) (by omega) (by omega) (by omega) (by omega) B4 (kk.trans k4)⟩⟩) (fun _ => ?_)
    exact ⟨_, rfl, _, rfl, s2, fin _ _ H3 (by omega) (by omega) (by omega) (by omega) (by omega) B3 kk⟩

/-! ### _law_bag -/
/-- a new bag -/
def sp__law_bag (K : PySem.W.Frag) : Sp := fun vs H Q _ => ∃ (a : Addr) (ns : List Int), vs = [.ref a] ∧ SqL K H a (ns.map V.int) ∧ ns.length ≤ 63 ∧ ∀ (b : Addr) (H' : Hp), H b = none → Bag H' b → Same H H' → Q (.ref b) H'

theorem sc__law_bag : FnScope ["script", "salt", "cell"] ["script"] (defScope s__law_bag) := ⟨rfl, rfl, rfl, by decide +kernel, rfl, by decide +kernel, by decide +kernel⟩
theorem ok__law_bag (E : En K mg) : Good P w K mg base CX0 1 "_law_bag" ["script"] (sp__law_bag K) := by
  obtain ⟨fd, F⟩ := E.says.def_ 21 (d := d__law_bag) rfl
  refine ⟨fd, ?_, F.bindsN fun _ _ _ _ _ _ us hl => match us, hl with | [_], _ => rfl, F.kp, E.gl "_law_bag"⟩
  refine F.ok sc__law_bag (fun vs H Q E' h => ?_) (fun cdv A outer s H vs Q E' hr h => ?_)
  · obtain ⟨a, ns, rfl, _⟩ := h; rfl
  · have hu64 := hu64_of hr
    refine ⟨_, PSs.nox (pss_cons (ps_set (i := 1) sc__law_bag.nd rfl (by first | exact Or.inl rfl | exact Or.inr rfl) pe_int)
      (pss_cons (ps_for PassesOwn.never rfl (pi_list (pe_slice sl_list (pv 0) po_none (po_some pe_int))) (pg_name (i := 2) sc__law_bag.nd rfl (by first | exact Or.inl rfl | exact Or.inr rfl))
        (pss_one (ps_set (i := 1) sc__law_bag.nd rfl (by first | exact Or.inl rfl | exact Or.inr rfl) (pe_op op_mod (pe_callTy call_int1 (by rfl) (E.fr "int") (by decide +kernel) (pa_cons (pe_op op_add (pe_op op_add (pe_op op_mul (pv 1) pe_int) (pe_op op_mod (pe_callTy call_int1 (by rfl) (E.fr "int") (by decide +kernel) (pa_cons (pv 2) pa_nil)) pe_int)) pe_int) pa_nil)) pe_int))))
      (pss_one (ps_ret (pe_lst (pa_cons (pe_callTy call_list_of (by rfl) (E.fr "list") (by decide +kernel) (pa_cons (pe_slice sl_list (pv 0) po_none (po_some pe_int)) pa_nil)) (pa_cons pe_int (pa_cons pe_int (pa_cons (pv 1) pa_nil))))))))), ?_⟩
    obtain ⟨a, ns, rfl, hS, hl, k⟩ := h
    have hl' : (ns.map V.int).length ≤ 63 := by rw [List.length_map]; exact hl
    refine ⟨_, rfl, 63, rfl, a, _, rfl, hS, fun p hp => ?_⟩
    rw [cut63 hl']
    refine ⟨p, rfl, ⟨_, SqL.of upd_same⟩, for_list (K := K) (a := p) (xs := ns.map V.int) (fun i σ H' => ∃ (s : Int) (v : Option V), σ = [some (.ref a), some (.int s), v] ∧ 0 ≤ s ∧ s < 2147483647 ∧ Same (upd H p (.lst (ns.map V.int))) H')
      ⟨3828, none, rfl, by decide, by decide, Same.refl _⟩ (fun i σ H' _ ⟨_, _, _, _, _, e⟩ => SqL.of (e _ _ upd_same)) ?_ ?_⟩
    · rintro i x σ H' hx ⟨s, v, rfl, h0, h1, e⟩
      obtain ⟨z, rfl⟩ : ∃ z, x = V.int z := by
        rw [List.getElem?_map] at hx
        cases q : ns[i]? with
        | none => rw [q] at hx; cases hx
        | some z => rw [q] at hx; exact ⟨z, (Option.some.inj hx).symm⟩
      refine ⟨_, rfl, _, _, rfl, rfl, .inr ⟨by decide, by decide⟩, _, rfl, .inl ⟨_, rfl, _, _, rfl, rfl, (by show (0 : Int) < _; decide), _, _, rfl, rfl, _, _, rfl, rfl, .inl ⟨_, rfl, _, _, rfl, rfl, (by show (0 : Int) < _; decide), ?_⟩⟩⟩
      have q := emod_bd (s * 45053 + z % 2147483563 + 23) (m := 2147483647) (by decide)
      exact ⟨_, some (.int z), rfl, q.1, q.2, e⟩
    · rintro σ H' ⟨s, v, rfl, h0, h1, e⟩
      have e1 : Same H H' := fun b o q => e b o (by rw [upd_ne (ne_of_none q hp)]; exact q)
      refine ⟨_, rfl, 63, rfl, a, _, rfl, e1.seq hS, fun p2 hp2 => ?_⟩
      rw [cut63 hl']
      refine ⟨p2, _, rfl, .inl (SqL.of upd_same), fun p3 hp3 => ?_⟩
      refine ⟨_, rfl, (by show 4 ≤ sizeLine; decide), fun b hb => ?_⟩
      have n32 : p3 ≠ p2 := fun z => by rw [z, upd_same] at hp3; cases hp3
      have nb3 : b ≠ p3 := fun z => by rw [z, upd_same] at hb; cases hb
      have hp3' : H' p3 = none := by rw [upd_ne n32] at hp3; exact hp3
      have hb2 : (upd H' p2 (.lst (ns.map V.int))) b = none := by rw [upd_ne nb3] at hb; exact hb
      have e2 : Same H' (upd (upd (upd H' p2 (.lst (ns.map V.int))) p3 (.lst (ns.map V.int))) b (.lst [.ref p3, .int 0, .int 0, .int s])) :=
        (same_new hp2).trans ((same_new hp3).trans (same_new hb))
      refine k b _ ?_ ⟨p3, ns, 0, 0, s, upd_same, ?_, nb3, hl, by decide, by decide, h0, h1⟩ (e1.trans e2)
      · have z : H' b = none := Same.free (same_new hp2) hb2
        exact Same.free e1 z
      · rw [upd_ne nb3.symm, upd_same]

/-! ### law -/
def sp_law (K : PySem.W.Frag) : Sp := fun vs H Q _ => ∃ (a : Addr) (ns : List Int), vs = [.ref a] ∧ SqL K H a (ns.map V.int) ∧ ns.length ≤ 63 ∧ ∀ H', Q (.bl true) H'
theorem sp_law_holds {K : PySem.W.Frag} (H : Hp) (a : Addr) (ns : List Int) (hl : ns.length ≤ 63) (hS : SqL K H a (ns.map V.int)) : sp_law K [.ref a] H (fun v _ => v = .bl true) fun _ _ _ => False := ⟨a, ns, rfl, hS, hl, fun _ => rfl⟩
def k4mid (K : PySem.W.Frag) (s1 s2 s3 : Option V) (b : Addr) : L2.St → Hp → Prop := fun σ H' => ∃ (s6 s7 s8 s9 s10 : Option V) (v1 v2 : V) (x y u w : Nat), σ = [s1, s2, s3, some v1, some v2, s6, s7, s8, s9, s10] ∧ PairAt K H' v1 x y ∧ PairAt K H' v2 u w ∧ okP x y ∧ okP u w ∧ (L x y).length ≤ 1000 ∧ (L u w).length ≤ 1000 ∧ Bag H' b
theorem repl_len {x y z : Str} {n m : Nat} (hx : x.length ≤ n) (hz : z.length = 1) (hm : 2 * n + 1 ≤ m) : (Txt.replace x y z).length ≤ m := by
  have := TK.replace_len x y z
  rw [hz, Nat.mul_one] at this
  omega
theorem cb1 : cbP 1 1 1 0 = true := by
  unfold cbP
  rw [show R 1 1 = [] from R_nil (by decide), show R 1 0 = [] from R_nil (by decide)]
  decide +kernel
theorem cb2 : cbP 1 0 0 1 = true := by
  unfold cbP
  rw [show R 1 0 = [] from R_nil (by decide), show R 0 1 = [] from R_nil (by decide)]
  decide +kernel
theorem cb3 : cbP 2 1 1 2 = true := by
  unfold cbP
  rw [R_x (x := 2) (y := 1) (by decide) (by decide), R_nil (x := 2 - (2 - 1) / 1 * 1) (y := 1) (by decide), R_y (x := 1) (y := 2) (by decide) (by decide), R_nil (x := 1) (y := 2 - (2 - 1) / 1 * 1) (by decide)]
  decide +kernel
theorem alike_key (x y u w : Nat) : PySem.W.alike (keyD x y) (keyD u w) = true := rfl
theorem Dp_key {K : PySem.W.Frag} {H : Hp} {t : Addr} {x y : Nat} (h : H t = some (.tup [.int (((L x y).length : Nat) : Int), .str (sgn (L x y).reverse), .int ((botI x y : Nat) : Int), .int ((Nat.gcd x y : Nat) : Int)])) : Dp K H (.ref t) (keyD x y) :=
  .tup (SqT.of h) (.cons (.int _) (.cons (.str _) (.cons (.int _) (.cons (.int _) .nil))))
/-- the numbers of a pair that is made from a far pair's rows -/
theorem made_bd {p q s : Nat} (ok : okP p q) (b3 : p < 2 ^ 3000 ∧ q < 2 ^ 3000) (hs : s ≤ 3) : (grow (s, s) (R p q).reverse).1 ≤ 3 * 2 ^ 3000 ∧ (grow (s, s) (R p q).reverse).2 ≤ 3 * 2 ^ 3000 := by
  have hp : 0 < 2 ^ 3000 := Nat.pow_pos (by decide)
  by_cases c : 0 < p ∧ 0 < q
  · have hg : 0 < Nat.gcd p q := Nat.gcd_pos_of_pos_left _ c.1
    have e := grow_R p q
    rw [fin_pos c.1 c.2] at e
    have m := grow_mono (R p q).reverse (p := (s, s)) (q := (s * Nat.gcd p q, s * Nat.gcd p q)) (Nat.le_mul_of_pos_right s hg) (Nat.le_mul_of_pos_right s hg)
    rw [grow_mul, e] at m
    have h1 : s * p ≤ 3 * 2 ^ 3000 := Nat.mul_le_mul hs (Nat.le_of_lt b3.1)
    have h2 : s * q ≤ 3 * 2 ^ 3000 := Nat.mul_le_mul hs (Nat.le_of_lt b3.2)
    exact ⟨Nat.le_trans m.1 h1, Nat.le_trans m.2 h2⟩
  · rw [R_nil (fun z => c ⟨z.1, z.2.1⟩)]
    show s ≤ _ ∧ s ≤ _
    generalize (2 : Nat) ^ 3000 = N at *
    omega

theorem sc_law : FnScope ["script", "bag", "turn", "a", "b", "word", "rows", "size", "near", "far"] ["script"] (defScope s_law) := ⟨rfl, rfl, rfl, by decide +kernel, rfl, by decide +kernel, by decide +kernel⟩
theorem ok_law {fd : FuncData} (F : FunD K "law" "law" (defArgs s_law) (defBody s_law) (defScope s_law) [] [] (He.ga K "law") fd) (E : En K mg) (G_comes_before : GoodD P w K mg base CX0 5 d_comes_before "comes_before" ["one", "other"] (sp_comes_before K)) (G__law_same : Good P w K mg base CX0 12 "_law_same" ["found", "due"] (sp__law_same K)) (G__law_made : Good P w K mg base CX0 1 "_law_made" ["rows", "size"] (sp__law_made K)) (G__law_twisted : Good P w K mg base CX0 1 "_law_twisted" ["bag", "rows"] (sp__law_twisted K)) (G__law_pull : Good P w K mg base CX0 1 "_law_pull" ["bag", "amount"] (sp__law_pull K)) (G__law_runs : Good P w K mg base CX0 1 "_law_runs" ["pair"] (sp__law_runs K)) (G__law_far_pair : Good P w K mg base CX0 3 "_law_far_pair" ["bag"] (sp__law_far_pair K)) (G__law_key : Good P w K mg base CX0 2 "_law_key" ["pair"] (sp__law_key K)) (G__law_grown : Good P w K mg base CX0 1 "_law_grown" ["pair", "word"] (sp__law_grown K)) (G__law_of : Good P w K mg base CX0 2 "_law_of" ["bag", "things"] (sp__law_of K)) (G__law_letters : Good P w K mg base CX0 1 "_law_letters" ["pair"] (sp__law_letters K)) (G__law_pair : Good P w K mg base CX0 2 "_law_pair" ["bag", "top_z"] (sp__law_pair K)) (G__law_bag : Good P w K mg base CX0 1 "_law_bag" ["script"] (sp__law_bag K)) : FnOk P w K mg base CX0 13 (He.ga K "law") fd ["script"] (sp_law K) := by
  refine F.ok sc_law (fun vs H Q E' h => ?_) (fun cdv A outer s H vs Q E' hr h => ?_)
  · obtain ⟨a, ns, rfl, _⟩ := h; rfl
  · have hu64 := hu64_of hr
    refine ⟨_, PSs.nox (pss_cons (ps_set (i := 1) sc_law.nd rfl (by first | exact Or.inl rfl | exact Or.inr rfl) (pe_G G__law_bag (hr.mono (by decide)) rfl pass0 (pa_cons (pv 0) pa_nil)))
      (pss_cons (ps_for PassesOwn.never rfl (pi_range1 rfl (E.fr "range") (pa_cons pe_int pa_nil)) (pg_name (i := 2) sc_law.nd rfl (by first | exact Or.inl rfl | exact Or.inr rfl))
        (pss_cons (ps_par (i := 3) (j := 4) rfl sc_law.nd rfl rfl (by decide) rfl rfl (pa_cons (pe_G G__law_pair (hr.mono (by decide)) rfl pass0 (pa_cons (pv 1) (pa_cons pe_int pa_nil))) (pa_cons (pe_G G__law_pair (hr.mono (by decide)) rfl pass0 (pa_cons (pv 1) (pa_cons pe_int pa_nil))) pa_nil)) rfl)
      (C8.pss_cut (ps_ifT op_eq (pe_G G__law_pull (hr.mono (by decide)) rfl pass0 (pa_cons (pv 1) (pa_cons pe_int pa_nil))) (nomark _)
        (psst_cons (PST.of (ps_set (i := 5) sc_law.nd rfl (by first | exact Or.inl rfl | exact Or.inr rfl) (pe_G G__law_letters (hr.mono (by decide)) rfl pass0 (pa_cons (pv 3) pa_nil)))) (CwR.psst_one (pst_set (i := 4) sc_law.nd rfl (by first | exact Or.inl rfl | exact Or.inr rfl) (pet_G G__law_grown (hr.mono (by decide)) rfl pass0 (pat_one (pe_G G__law_of (hr.mono (by decide)) rfl pass0 (pa_cons (pv 1) (pa_cons (pe_lst (pa_cons (pe_tup (pa_cons pe_int (pa_cons pe_int pa_nil))) (pa_cons (pe_tup (pa_cons pe_int (pa_cons pe_int pa_nil))) pa_nil))) pa_nil))) (pat_cons (pet_G G__law_of (hr.mono (by decide)) rfl pass0 (pat_one (pv 1) (pat_cons (pet_lst (pat_one (pv 5) (pat_one (pe_revS (pv 5)) (pat_cons (CwR.pet_replT (CwR.pet_replT (CwR.pet_replC (pv 5)))) pat_nil)))) pat_nil))) pat_nil))))))
        CwR.psst_nil)
      (pss_cons (ps_if (pt_not (pt_val (pe_G G__law_same (hr.mono (by decide)) rfl pass0 (pa_cons (pe_lst (pa_cons (pe_G (GoodD.good G_comes_before) (hr.mono (by decide)) rfl pass0 (pa_cons (pv 3) (pa_cons (pv 4) pa_nil))) (pa_cons (pe_GKr G_comes_before (hr.mono (by decide)) rfl pass0 (fun F s us hl => match us, hl with | [_, _], _ => F.bindsW (fun _ _ _ _ _ _ => rfl) s) (pk_cons (pv 3) (pk_cons (pv 4) pk_nil))) (pa_cons (pe_G (GoodD.good G_comes_before) (hr.mono (by decide)) rfl pass0 (pa_cons (pv 3) (pa_cons (pv 3) pa_nil))) pa_nil)))) (pa_cons (pe_lst (pa_cons (pe_cmpR (op_ltD hu64) (pe_G G__law_key (hr.mono (by decide)) rfl pass0 (pa_cons (pv 3) pa_nil)) (pe_G G__law_key (hr.mono (by decide)) rfl pass0 (pa_cons (pv 4) pa_nil)) (nomark _)) (pa_cons (pe_cmpR (op_ltD hu64) (pe_G G__law_key (hr.mono (by decide)) rfl pass0 (pa_cons (pv 4) pa_nil)) (pe_G G__law_key (hr.mono (by decide)) rfl pass0 (pa_cons (pv 3) pa_nil)) (nomark _)) (pa_cons pe_bl pa_nil)))) pa_nil)))))
        (pss_one (ps_ret pe_bl))
        pss_nil)
      (pss_cons (ps_par (i := 6) (j := 7) rfl sc_law.nd rfl rfl (by decide) rfl rfl (pa_cons (pe_revL (pe_G G__law_runs (hr.mono (by decide)) rfl pass0 (pa_cons (pe_G G__law_far_pair (hr.mono (by decide)) rfl pass0 (pa_cons (pv 1) pa_nil)) pa_nil))) (pa_cons (pe_op op_add pe_int (pe_G G__law_pull (hr.mono (by decide)) rfl pass0 (pa_cons (pv 1) (pa_cons pe_int pa_nil)))) pa_nil)) rfl)
      (pss_cons (ps_par (i := 8) (j := 9) rfl sc_law.nd rfl rfl (by decide) rfl rfl (pa_cons (pe_G G__law_made (hr.mono (by decide)) rfl pass0 (pa_cons (pv 6) (pa_cons (pv 7) pa_nil))) (pa_cons (pe_G G__law_made (hr.mono (by decide)) rfl pass0 (pa_cons (pe_G G__law_twisted (hr.mono (by decide)) rfl pass0 (pa_cons (pv 1) (pa_cons (pv 6) pa_nil))) (pa_cons (pv 7) pa_nil))) pa_nil)) rfl)
      (pss_one (ps_if (PW.pt (pw_and (pt_cmpR op_gt (pe_callB call_len_seq (by rfl) (E.fr "len") (by decide +kernel) (pa_cons (pv 6) pa_nil)) pe_int (nomark _)) (pw_and1 (pt_not (pt_val (pe_G G__law_same (hr.mono (by decide)) rfl pass0 (pa_cons (pe_lst (pa_cons (pe_G (GoodD.good G_comes_before) (hr.mono (by decide)) rfl pass0 (pa_cons (pv 8) (pa_cons (pv 9) pa_nil))) (pa_cons (pe_G (GoodD.good G_comes_before) (hr.mono (by decide)) rfl pass0 (pa_cons (pv 9) (pa_cons (pv 8) pa_nil))) pa_nil))) (pa_cons (pe_lst (pa_cons (pe_cmpR op_eq (pe_ix ix_tup (pe_ix ix_list (pv 6) pe_int (fun _ _ => rfl)) pe_int (fun _ _ => rfl)) pe_str (nomark _)) (pa_cons (pe_cmpR op_eq (pe_ix ix_tup (pe_ix ix_list (pv 6) pe_int (fun _ _ => rfl)) pe_int (fun _ _ => rfl)) pe_str (nomark _)) pa_nil))) pa_nil))))))))
        (pss_one (ps_ret pe_bl))
        pss_nil))))))))
      (pss_one (ps_ret (pe_and (pe_G (GoodD.good G_comes_before) (hr.mono (by decide)) rfl pass0 (pa_cons (pe_tup (pa_cons pe_int (pa_cons pe_int pa_nil))) (pa_cons (pe_tup (pa_cons pe_int (pa_cons pe_int pa_nil))) pa_nil))) (pe_and (pe_G (GoodD.good G_comes_before) (hr.mono (by decide)) rfl pass0 (pa_cons (pe_tup (pa_cons pe_int (pa_cons pe_int pa_nil))) (pa_cons (pe_tup (pa_cons pe_int (pa_cons pe_int pa_nil))) pa_nil))) (pe_one (pe_G (GoodD.good G_comes_before) (hr.mono (by decide)) rfl pass0 (pa_cons (pe_tup (pa_cons pe_int (pa_cons pe_int pa_nil))) (pa_cons (pe_tup (pa_cons pe_int (pa_cons pe_int pa_nil))) pa_nil)))))))))), ?_⟩
    obtain ⟨a, ns, rfl, hS, hl, k⟩ := h
    refine ⟨_, rfl, a, ns, rfl, hS, hl, fun b H1 hb B e1 => ?_⟩
    have s2 : 2 ≤ sizeLine := by decide
    have s3 : 3 ≤ sizeLine := by decide
    refine ⟨10, rfl, by decide, by decide, for_range (lo := 0) (n := 10) (fun _ σ H' => ∃ s2 s3 s4 s5 s6 s7 s8 s9 : Option V, σ = [some (.ref a), some (.ref b), s2, s3, s4, s5, s6, s7, s8, s9] ∧ Bag H' b) ⟨_, _, _, _, _, _, _, _, rfl, B⟩ ?_ ?_⟩
    rotate_left
    · rintro σ H2 ⟨_, _, _, _, _, _, _, _, rfl, B2⟩
      have g1 : ∀ (c d e f : Nat), c ≤ 2 → d ≤ 2 → e ≤ 2 → f ≤ 2 → ¬ (c = 0 ∧ d = 0) → ¬ (e = 0 ∧ f = 0) → okP c d ∧ okP e f := fun c d e f h1 h2 h3 h4 h5 h6 => ⟨okP_small h5 (by omega) (by omega), okP_small h6 (by omega) (by omega)⟩
      refine ⟨s2, fun p1 h1 => ⟨s2, fun p2 h2 => ⟨_, _, 1, 1, 1, 0, rfl, ⟨p1, rfl, seqT (same_new h2) (SqT.of upd_same)⟩, ⟨p2, rfl, SqT.of upd_same⟩, okP_small (by decide) (by decide) (by decide), okP_small (by decide) (by decide) (by decide), fun H3 e3 => ⟨_, rfl, ?_⟩⟩⟩⟩
      refine ite_t cb1 ?_
      refine ⟨s2, fun p3 h3 => ⟨s2, fun p4 h4 => ⟨_, _, 1, 0, 0, 1, rfl, ⟨p3, rfl, seqT (same_new h4) (SqT.of upd_same)⟩, ⟨p4, rfl, SqT.of upd_same⟩, okP_small (by decide) (by decide) (by decide), okP_small (by decide) (by decide) (by decide), fun H4 e4 => ⟨_, rfl, ?_⟩⟩⟩⟩
      refine ite_t cb2 ?_
      refine ⟨s2, fun p5 h5 => ⟨s2, fun p6 h6 => ⟨_, _, 2, 1, 1, 2, rfl, ⟨p5, rfl, seqT (same_new h6) (SqT.of upd_same)⟩, ⟨p6, rfl, SqT.of upd_same⟩, okP_small (by decide) (by decide) (by decide), okP_small (by decide) (by decide) (by decide), fun H5 e5 => ?_⟩⟩⟩
      show Q (.bl (cbP 2 1 1 2)) _
      rw [cb3]
      exact k _
    rintro i σ H2 _ ⟨_, _, _, _, _, _, _, _, rfl, B2⟩
    -- a, b = (_law_pair(bag, 30), _law_pair(bag, 30))
    refine ⟨_, rfl, b, 30, rfl, B2, by decide, by decide, fun v1 x y H3 h1 n1 hx hy B3 k3 => ?_⟩
    refine ⟨_, rfl, b, 30, rfl, B3, by decide, by decide, fun v2 u w H4 h2 n2 hu hw B4 k4 => ⟨_, _, rfl, ?_⟩⟩
    have h14 := h1.sameT (B3.sameT k4)
    have lxy : (L x y).length ≤ 1000 := Nat.le_trans (L_le x y) (by omega)
    have luw : (L u w).length ≤ 1000 := Nat.le_trans (L_le u w) (by omega)
    refine ⟨k4mid K (some (.ref a)) (some (.ref b)) (some (.int (0 + (i : Int)))) b, ?_, ?_⟩
    · -- if _law_pull(bag, 2) == 0
      refine ⟨_, rfl, b, _, rfl, B4, by decide, by decide, fun r1 H5 _ _ B5 k5 => ⟨rfl, _, rfl, ?_⟩⟩
      have h15 := h14.sameT (B4.sameT k5)
      have h25 := h2.sameT (B4.sameT k5)
      refine ite2 (fun _ => ?_) (fun _ => ⟨_, _, _, _, _, v1, v2, x, y, u, w, rfl, h15, h25, okP_small n1 (by omega) (by omega), okP_small n2 (by omega) (by omega), lxy, luw, B5⟩)
      refine ⟨_, rfl, v1, x, y, rfl, h15, lxy, ?_⟩
      -- _law_of(bag, [(1, 1), (2, 2)])
      refine ⟨_, rfl, s2, fun t1 ht1 => ⟨s2, fun t2 ht2 => ⟨s2, fun l hl2 => ?_⟩⟩⟩
      have el := same_new (o := .lst [.ref t1, .ref t2]) hl2
      have e2 := (same_new (o := .tup [.int 2, .int 2]) ht2).trans el
      have e1' := (same_new (o := .tup [.int 1, .int 1]) ht1).trans e2
      have B6 := B5.keep e1'
      have nl : l ≠ b := (B5.keep ((same_new (o := .tup [.int 1, .int 1]) ht1).trans (same_new (o := .tup [.int 2, .int 2]) ht2))).ne hl2
      refine ⟨b, l, _, rfl, B6, nl, SqL.of upd_same, (by show 0 < 2; decide), (by show 2 ≤ 1000; decide), fun j v H7 hv B7 k7 => ?_⟩
      have st := B6.sameT k7
      have h17 := (h15.same e1').sameT st
      obtain ⟨g, g0, g2, hg⟩ : ∃ g : Nat, 0 < g ∧ g ≤ 2 ∧ PairAt K H7 v g g := by
        match j, hv with
        | 0, hv => cases hv; exact ⟨1, by decide, by decide, t1, rfl, st.seqT (seqT e2 (SqT.of upd_same))⟩
        | 1, hv => cases hv; exact ⟨2, by decide, by decide, t2, rfl, st.seqT (seqT el (SqT.of upd_same))⟩
      -- _law_of(bag, [word, word[::-1], ..])
      have wl : (sgn (L x y)).length ≤ 70 := by rw [sgn_len]; exact Nat.le_trans (L_le x y) (by omega)
      have z1 : ("Z" : Str).length = 1 := by decide +kernel
      have z2 : ("X" : Str).length = 1 := by decide +kernel
      have z3 : ("Y" : Str).length = 1 := by decide +kernel
      have w1 := repl_len (y := ("X" : Str)) wl z1 (m := 150) (by decide)
      have w2 := repl_len (y := ("Y" : Str)) w1 z2 (m := 310) (by decide)
      have w3 := repl_len (y := ("Z" : Str)) w2 z3 (m := 630) (by decide)
      refine ⟨_, rfl, _, rfl, _, rfl, _, rfl, sz (by omega), _, rfl, _, rfl, by rw [z1]; omega, _, rfl, by rw [z2]; omega, _, rfl, by rw [z3]; omega, s3, fun l2 hl3 => ?_⟩
      refine ⟨b, l2, _, rfl, B7.keep (same_new hl3), B7.ne hl3, SqL.of upd_same, (by show 0 < 3; decide), (by show 3 ≤ 1000; decide), fun j2 v' H8 hv' B8 k8 => ?_⟩
      have st2 := (B7.keep (same_new hl3)).sameT k8
      obtain ⟨z, rfl, hz⟩ : ∃ z : Str, v' = .str z ∧ z.length ≤ 1000 := by
        match j2, hv' with
        | 0, hv' => cases hv'; exact ⟨_, rfl, by omega⟩
        | 1, hv' => cases hv'; exact ⟨_, rfl, by rw [revS_len]; omega⟩
        | 2, hv' => cases hv'; exact ⟨_, rfl, by omega⟩
      refine ⟨v, g, z, rfl, (hg.same (same_new hl3)).sameT st2, g0, g2, hz, fun t u' w' H9 e9 hp ok9 l9 => ?_⟩
      exact ⟨_, _, _, _, _, v1, .ref t, x, y, u', w', rfl, ((h17.same (same_new hl3)).sameT st2).same e9, hp, okP_small n1 (by omega) (by omega), ok9, lxy, l9, B8.keep e9⟩
    rintro σ H5 ⟨_, _, _, _, _, v1, v2, x, y, u, w, rfl, h1, h2, ok1, ok2, lxy, luw, B5⟩
    -- not _law_same([comes_before(a, b), comes_before(other=a, one=b), comes_before(a, a)], ..)
    refine ⟨_, rfl, _, rfl, v1, v2, x, y, u, w, rfl, h1, h2, ok1, ok2, fun H6 e6 => ?_⟩
    refine ⟨_, rfl, _, rfl, v2, v1, u, w, x, y, rfl, h2.same e6, h1.same e6, ok2, ok1, fun H7 e7 => ?_⟩
    refine ⟨_, rfl, _, rfl, v1, v1, x, y, x, y, rfl, (h1.same e6).same e7, (h1.same e6).same e7, ok1, ok1, fun H8 e8 => ⟨s3, fun l1 hl1 => ?_⟩⟩
    have f8 := same_new (o := .lst [.bl (cbP x y u w), .bl (cbP u w x y), .bl (cbP x y x y)]) hl1
    have e59 := e6.trans (e7.trans (e8.trans f8))
    have h19 := h1.same e59
    have h29 := h2.same e59
    have hl19 : (upd H8 l1 (.lst [.bl (cbP x y u w), .bl (cbP u w x y), .bl (cbP x y x y)])) l1 = some (.lst [.bl (cbP x y u w), .bl (cbP u w x y), .bl (cbP x y x y)]) := upd_same
    generalize upd H8 l1 (.lst [.bl (cbP x y u w), .bl (cbP u w x y), .bl (cbP x y x y)]) = H9 at *
    refine ⟨_, rfl, v1, x, y, rfl, h19, lxy, fun t1 H10 e10 ht1 => ⟨_, rfl, v2, u, w, rfl, h29.same e10, luw, fun t2 H11 e11 ht2 => ⟨keyD x y, keyD u w, Dp_key (e11 _ _ ht1), Dp_key ht2, alike_key _ _ _ _, (fun z => by cases z), (by show 1 ≤ 60; decide), ?_⟩⟩⟩
    have e911 := e10.trans e11
    refine ⟨_, rfl, v2, u, w, rfl, h29.same e911, luw, fun t3 H12 e12 ht3 => ⟨_, rfl, v1, x, y, rfl, (h19.same e911).same e12, lxy, fun t4 H13 e13 ht4 => ⟨keyD u w, keyD x y, Dp_key (e13 _ _ ht3), Dp_key ht4, alike_key _ _ _ _, (fun z => by cases z), (by show 1 ≤ 60; decide), s3, fun l2 hl2 => ?_⟩⟩⟩
    have f13 := same_new (o := .lst [.bl (PySem.W.dataLt (keyD x y) (keyD u w)), .bl (PySem.W.dataLt (keyD u w) (keyD x y)), .bl false]) hl2
    have e914 := e911.trans (e12.trans (e13.trans f13))
    rw [cbP_self, cbP_key x y u w, cbP_key u w x y] at hl19
    refine ⟨.ref l1, .ref l2, .list [.bool (PySem.W.dataLt (keyD x y) (keyD u w)), .bool (PySem.W.dataLt (keyD u w) (keyD x y)), .bool false], rfl, .lst (SqL.of (e914 _ _ hl19)) (.cons (.bl _) (.cons (.bl _) (.cons (.bl _) .nil))), .lst (SqL.of upd_same) (.cons (.bl _) (.cons (.bl _) (.cons (.bl _) .nil))), (by show 1 < 12; decide), rfl, fun H15 e15 => ⟨true, rfl, ?_⟩⟩
    refine ite_f rfl ?_
    have B15 := B5.keep (e59.trans (e914.trans e15))
    -- rows, size
    refine ⟨_, rfl, b, rfl, B15, fun vf p q H16 hF okF bF B16 k16 => ⟨vf, p, q, rfl, hF, okF, fun f us H17 hf e17 hFl hD => ⟨f, us, rfl, SqL.of hFl, fun r hr => ?_⟩⟩⟩
    have lR := R_len' okF
    have e18 := e17.trans (same_new (o := .lst us.reverse) hr)
    have dR : DpAll K (upd H17 r (.lst us.reverse)) us.reverse ((R p q).reverse.map runD) := by
      rw [List.map_reverse]
      exact DpAll.rev' (Dp.sameAll (same_new hr) hD)
    have hRr : (upd H17 r (.lst us.reverse)) r = some (.lst us.reverse) := upd_same
    have B18 := B16.keep e18
    have nrb : r ≠ b := (B16.keep e17).ne hr
    generalize upd H17 r (.lst us.reverse) = H18 at *
    refine ⟨_, rfl, b, _, rfl, B18, by decide, by decide, fun r3 H19 r30 r31 B19 k19 => ⟨_, _, rfl, rfl, _, _, rfl, ?_⟩⟩
    have hR19 := k19.seq nrb (SqL.of (K := K) hRr)
    have d19 := Dp.sameTs (B18.sameT k19) (noLs_map noL_runD _) dR
    obtain ⟨s, hs, s0, s1⟩ : ∃ s : Nat, (1 : Int) + r3 = (s : Int) ∧ 0 < s ∧ s ≤ 3 := ⟨(1 + r3).toNat, by omega, by omega, by omega⟩
    have hmade := made_bd okF bF s1
    have hAlt : AltR (R p q).reverse := AltR.rev (R_alt p q)
    have hPos : ∀ r ∈ (R p q).reverse, 0 < r.2 := fun r hr => R_pos' p q r (List.mem_reverse.mp hr)
    have lA : (R p q).reverse.length ≤ 8000 := by rw [List.length_reverse]; exact lR
    generalize (R p q).reverse = A at *
    generalize us.reverse = rs at *
    have lrs := DpAll.length d19
    rw [List.length_map] at lrs
    have up : 6 * 2 ^ 3000 < 2 ^ 4000 := by
      rw [show 4000 = 1000 + 3000 by decide, Nat.pow_add]
      exact Nat.mul_lt_mul_of_pos_right (by decide) (Nat.pow_pos (by decide))
    have bA1 : (grow (s, s) A).1 < 2 ^ 4000 := by omega
    have bA2 : (grow (s, s) A).2 < 2 ^ 4000 := by omega
    have posA := grow_pos s0 A
    -- near, far
    refine ⟨_, rfl, _, rfl, r, rs, A, s, (by rw [← hs]; rfl), hR19, d19, s0, bA1, bA2, fun t1 H20 e20 hP1 => ?_⟩
    have hR20 := e20.seq hR19
    have d20 := Dp.sameAll e20 d19
    refine ⟨_, rfl, _, rfl, .ref b, r, rs, A, rfl, hR20, d20, by omega, hPos, fun f2 us2 l' H21 hTw e21 hF2 hD2 => ?_⟩
    have bl : (grow (s, s) l').1 < 2 ^ 4000 ∧ (grow (s, s) l').2 < 2 ^ 4000 := by
      rcases hTw with ⟨_, e⟩ | ⟨a0, mid, z0, eA, el⟩
      · rw [e]
        exact ⟨bA1, bA2⟩
      · have g := grow_twist (s := s) (a := a0) (mid := mid) (z := z0) (hPos a0 (by rw [eA]; exact List.mem_cons_self))
        rw [← eA, ← el] at g
        omega
    have posl := grow_pos s0 l'
    refine ⟨_, rfl, f2, us2, l', s, (by rw [← hs]; rfl), SqL.of hF2, hD2, s0, bl.1, bl.2, fun t2 H22 e22 hP2 => ⟨_, _, rfl, ?_⟩⟩
    have e2022 := e21.trans e22
    have hR22 := e2022.seq hR20
    have d22 := Dp.sameAll e2022 d20
    have hP1' := hP1.same e2022
    have B22 := B19.keep (e20.trans e2022)
    refine ⟨_, rfl, r, rs, rfl, .inl hR22, _, _, rfl, rfl, _, rfl, ?_⟩
    by_cases hc : 1 < A.length
    rotate_left
    · exact ite_f (decide_eq_false (by omega)) (ite_f rfl ⟨_, _, _, _, _, _, _, _, rfl, B22⟩)
    refine ite_t (decide_eq_true (by omega)) ?_
    rcases hTw with ⟨hle, _⟩ | ⟨a0, mid, z0, eA, el⟩
    · exact absurd hc (by omega)
    subst eA
    subst el
    have cbt := cb_twist s0 hAlt hPos
    have okA : okP (grow (s, s) (a0 :: (mid ++ [z0]))).1 (grow (s, s) (a0 :: (mid ++ [z0]))).2 := ⟨by omega, bA1, bA2⟩
    have okB : okP (grow (s, s) (twist2 a0 mid z0)).1 (grow (s, s) (twist2 a0 mid z0)).2 := ⟨by omega, bl.1, bl.2⟩
    refine ⟨_, rfl, _, rfl, .ref t1, .ref t2, _, _, _, _, rfl, hP1', hP2, okA, okB, fun H23 e23 => ?_⟩
    refine ⟨_, rfl, _, rfl, .ref t2, .ref t1, _, _, _, _, rfl, hP2.same e23, hP1'.same e23, okB, okA, fun H24 e24 => ⟨s2, fun l1 hl1 => ?_⟩⟩
    rw [cbt.1, cbt.2] at *
    have f24 := same_new (o := .lst [.bl (!a0.1), .bl a0.1]) hl1
    have e25 := e23.trans (e24.trans f24)
    have h0 : rs[0]? = some rs[0] := List.getElem?_eq_getElem (by omega)
    obtain ⟨c, n, pz, hr0, hpe, hpz⟩ := run_get (Dp.sameAll e25 d22) h0
    have ec : (c, n) = a0 := (Option.some.inj (show some a0 = some (c, n) from hr0)).symm
    have h0' : atI rs ((0 : Nat) : Int) = some (.ref pz) := by rw [← hpe]; exact atI_nat h0
    refine ⟨_, rfl, r, _, _, _, rfl, rfl, e25.seq hR22, h0', pz, _, _, _, rfl, rfl, hpz, at2_0 _ _, rfl, ?_⟩
    refine ⟨_, rfl, r, _, _, _, rfl, rfl, e25.seq hR22, h0', pz, _, _, _, rfl, rfl, hpz, at2_0 _ _, rfl, s2, fun l2 hl2 => ?_⟩
    have ev1 : decide (V.str (letS c) = V.str "Y") = !a0.1 := by
      rw [← ec]
      cases c
      · show decide (V.str "Y" = V.str "Y") = true; decide +kernel
      · show decide (V.str "X" = V.str "Y") = false; decide +kernel
    have ev2 : decide (V.str (letS c) = V.str "X") = a0.1 := by
      rw [← ec]
      cases c
      · show decide (V.str "Y" = V.str "X") = false; decide +kernel
      · show decide (V.str "X" = V.str "X") = true; decide +kernel
    rw [ev1, ev2] at *
    have f25 := same_new (o := .lst [.bl (!a0.1), .bl a0.1]) hl2
    refine ⟨.ref l1, .ref l2, .list [.bool (!a0.1), .bool a0.1], rfl, .lst (SqL.of (f25 _ _ upd_same)) (.cons (.bl _) (.cons (.bl _) .nil)), .lst (SqL.of upd_same) (.cons (.bl _) (.cons (.bl _) .nil)), (by show 1 < 12; decide), rfl, fun H26 e26 => ⟨true, rfl, ?_⟩⟩
    exact ite_f rfl ⟨_, _, _, _, _, _, _, _, rfl, B22.keep (e25.trans (f25.trans e26))⟩

end
theorem all (P : Program) (w : World) (base : Heap) {K : PySem.W.Frag} {mg : Str → Option Value} {fd : FuncData} (E : En K mg) (F : FunD K "law" "law" (defArgs s_law) (defBody s_law) (defScope s_law) [] [] (He.ga K "law") fd) :
    FnOk P w K mg base CX0 13 (He.ga K "law") fd ["script"] (sp_law K) := by
  have G_common_divisor := ok_common_divisor (P := P) (w := w) (base := base) E
  have G_is_number := ok_is_number (P := P) (w := w) (base := base) E
  have G_is_pair := ok_is_pair (P := P) (w := w) (base := base) E G_is_number
  have G_need_pair := ok_need_pair (P := P) (w := w) (base := base) E G_is_pair
  have G_divisor := ok_divisor (P := P) (w := w) (base := base) E G_common_divisor G_need_pair
  have G_bottom := ok_bottom (P := P) (w := w) (base := base) E G_need_pair
  have G_runs := ok_runs (P := P) (w := w) (base := base) E G_need_pair
  have G_comes_before := ok_comes_before (P := P) (w := w) (base := base) E G_divisor G_bottom G_runs
  have G__law_same := ok__law_same (P := P) (w := w) (base := base) E
  have G__law_made := ok__law_made (P := P) (w := w) (base := base) E
  have G__law_twisted := ok__law_twisted (P := P) (w := w) (base := base) E
  have G__law_pull := ok__law_pull (P := P) (w := w) (base := base) E
  have G__law_runs := ok__law_runs (P := P) (w := w) (base := base) E
  have G__law_of := ok__law_of (P := P) (w := w) (base := base) E G__law_pull
  have G__law_far_pair := ok__law_far_pair (P := P) (w := w) (base := base) E G__law_pull G__law_of
  have G__law_gcd := ok__law_gcd (P := P) (w := w) (base := base) E
  have G__law_bottom := ok__law_bottom (P := P) (w := w) (base := base) E
  have G__law_letters := ok__law_letters (P := P) (w := w) (base := base) E
  have G__law_key := ok__law_key (P := P) (w := w) (base := base) E G__law_gcd G__law_bottom G__law_letters
  have G__law_grown := ok__law_grown (P := P) (w := w) (base := base) E
  have G__law_pair := ok__law_pair (P := P) (w := w) (base := base) E G__law_pull
  have G__law_bag := ok__law_bag (P := P) (w := w) (base := base) E
  exact ok_law F E G_comes_before G__law_same G__law_made G__law_twisted G__law_pull G__law_runs G__law_far_pair G__law_key G__law_grown G__law_of G__law_letters G__law_pair G__law_bag
abbrev Rw : PySem.W.OpenRow := PySem.W.OpenLaw.row PySem.Challenge.rw_addpath_k04_order_of_pairs
abbrev hk : PySem.W.Hook := He.hookX 4 fal fnl [] [] exf
def ob (s : PySem.W.SharedT) : He.AlX := He.obsX 4 fal fnl [] [] exf (HandSHeadRun.getT s)
theorem ob_eq (s : PySem.W.SharedT) : ob s = hk.obs s.abs := He.obsX_eq (HandSHeadRun.getT_eq s)
def loose : List Str := ["PathError", "InvalidPair", "is_number", "common_divisor", "BOTTOMS", "is_pair", "need_pair", "divisor", "bottom", "runs", "comes_before", "_law_bag", "_law_pull", "_law_of", "_law_same", "_law_gcd", "_law_pair", "_law_runs", "_law_bottom", "_law_letters", "_law_key", "_law_grown", "_law_far_pair", "_law_twisted", "_law_made"]
theorem run (w : World) : HandSHeadRun.RunEq Rw (PySem.W.view Rw.prog [29]) hk ob 3000 loose w := by
  intro os
  kernel_rfl
end Lw
open PySem PySem.W PySem.Calls PyProof.Rows
set_option maxRecDepth 100000 in
set_option maxHeartbeats 0 in
theorem PySem.Challenge.cw_addpath_k04_order_of_pairs_holds : PySem.Challenge.rw_addpath_k04_order_of_pairs.Holds := by
  w_on; o_law
  refine HandSHeadRun.head_any (r := OpenLaw.row PySem.Challenge.rw_addpath_k04_order_of_pairs) (q := view (OpenLaw.row PySem.Challenge.rw_addpath_k04_order_of_pairs).prog [29]) (H := Lw.hk) (ob := Lw.ob) (M := 3000) (loose := Lw.loose) (d := HandSHeadRun.topDef (OpenLaw.row PySem.Challenge.rw_addpath_k04_order_of_pairs).prog 29) (kwd := []) Lw.ob_eq
    (by kernel_rfl) (fun s => by kernel_rfl) Lw.run (by kernel_rfl) (by kernel_rfl) (by kernel_rfl) (by rfl) (by first | assumption | decide +kernel) (by decide +kernel) ⟨rfl, rfl, rfl, rfl, rfl, by decide +kernel⟩ ?hw ?hc
  case hw => w_witness2
  case hc =>
    refine L2.walk_ofE (l := PySem.Challenge.rw_addpath_k04_order_of_pairs) (n := 63) (k := 13) (x := "script") (CX := L2.CX0) rfl (by decide) (by kernel_rfl) ⟨rfl, by decide, by decide⟩ ?F (fun _ _ _ _ z => z)
    intro w mg fa h Y G hmg0
    obtain ⟨K, KX, c⟩ := Y
    have hmg : mg ("law" : PySem.Str) = some (.ref fa) := by
      have e : (HandSHeadRun.topDef (OpenLaw.row PySem.Challenge.rw_addpath_k04_order_of_pairs).prog 29).name = ("law" : PySem.Str) := by kernel_rfl
      rw [← e]
      exact hmg0
    exact Bx.closing (sp := Lw.sp_law) KX G hmg c.t.d c.more (fun E => Lw.En.gl E "law") (c.t.d.def_ 22 (d := Lw.d_law) rfl) (fun base fd E F => Lw.all _ w base E F) (fun F s v => L2.FunD.bindsA (ps := ["script"]) F (fun _ _ _ _ _ _ us hl => match us, hl with | [_], _ => rfl) s [v] rfl)
      (fun H a ns hl hS => Lw.sp_law_holds H a ns hl hS)
#print axioms PySem.Challenge.cw_addpath_k04_order_of_pairs_holds
