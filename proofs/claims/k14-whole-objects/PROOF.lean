import PyProof.Rows.All
import Wide.All
import OpenK.AllK
import Wide.FinOn
import HandS.ForMost
import HandS.ForExc
import HandS.Walk
import HandS.Zip
import HandS.Deep
import HandS.Lambda
import HandS.Style
import HandS.Defaults
import HandS.IsInst
import HandS.TupAny
import HandS.Conv
import HandS.Wide
import HandS.GenList
import HandS.ForDict
import PySem.Challenge.RW_paircuts_k14_whole_objects_are_functions
import HandS.DictComp
import HandS.DictTup
import HandS.Star
import HandS.FStr
import KE.KRevSl
import HandS.More
import HandS.Property
import HandS.MakeKw
import KE.KSuper
import HandS.Nested
import HandS.ClsMeth
import KE.KOpsOwn
import OpenK.KOps
import OpenK.KMeth
import KE.KFmtOwn
import HandS.Set
import HandS.SetFor
import HandS.SetTxt0
import HandS.Strs
import PyProof.Rows.SortStr
import HandS.ExcInit
import HandS.WordsExc
import KE.KExcSuper
import HandS.ExcField
import HandS.Head0
import HandS.Head1
import HandS.Head2
import HandS.HeadHook1
import HandS.HeadHook2
import HandS.HeadHook3
import HandS.HeadHook4
import HandS.HeadWalk
import KE.IntBitsLaws
set_option Elab.async false
set_option linter.all false
set_option maxRecDepth 100000
set_option maxHeartbeats 4000000
/-! KA: types of values that stay while the heap grows; the hand layer's judgements read by them. -/
namespace K14
open PySem PySem.Spec PyProof.Rows L2

/-! ### what may happen to the heap -/
/-- no dict with int and text keys, no table -/
def Still : HO → Prop
  | .dK _ => False
  | .tbl _ => False
  | _ => True
/-- the tables of the code objects of the lambdas: by the defs that make them -/
def tabsT : List (Addr × Str) := [(788, "_law_more.<locals>.<lambda>"), (795, "_law_less.<locals>.<lambda>"), (802, "_law_united.<locals>.<lambda>"), (807, "_law_next_object.<locals>.<lambda>")]
/-- the drawing dict of the law stands at f -/
def FeedOk (f cl : Addr) (H : Hp) : Prop := ∃ (ns : List Int) (nx rs ct : Int),
  H f = some (.dK [(Sum.inr "cells", .ref cl), (Sum.inr "next", .int nx), (Sum.inr "rest", .int rs), (Sum.inr "count", .int ct)]) ∧
  H cl = some (.lst (ns.map V.int)) ∧ ns.length ≤ 63 ∧ 0 ≤ nx ∧ 0 ≤ rs ∧ rs.natAbs < 2 ^ 1048576 ∧ ∀ z ∈ ns, z.natAbs < 2 ^ 1048576
structure Gr (H H' : Hp) : Prop where
  keep : ∀ b o, H b = some o → Still o → H' b = some o
  feed : ∀ f cl, FeedOk f cl H → FeedOk f cl H'
  tab : LamX.Tabs tabsT H → LamX.Tabs tabsT H'
theorem Gr.refl (H : Hp) : Gr H H := ⟨fun _ _ h _ => h, fun _ _ h => h, fun h => h⟩
theorem Gr.trans {H H1 H2 : Hp} (a : Gr H H1) (b : Gr H1 H2) : Gr H H2 := ⟨fun c o h n => b.keep c o (a.keep c o h n) n, fun f cl h => b.feed f cl (a.feed f cl h), fun h => b.tab (a.tab h)⟩
theorem Gr.same {H H' : Hp} (e : Same H H') : Gr H H' := by
  refine ⟨fun b o h _ => e b o h, fun f cl h => ?_, fun h => h.ext e⟩
  obtain ⟨ns, nx, rs, ct, h1, h2, r⟩ := h
  exact ⟨ns, nx, rs, ct, e _ _ h1, e _ _ h2, r⟩
theorem same_new {H : Hp} {p : Addr} {o : HO} (h : H p = none) : Same H (upd H p o) := fun b u e => by
  rw [upd_ne (ne_of_none e h)]
  exact e
theorem Gr.new {H : Hp} {p : Addr} {o : HO} (h : H p = none) : Gr H (upd H p o) := .same (same_new h)
/-- an object that H does not know may change -/
theorem Same.mut {H H' : Hp} {p : Addr} {o : HO} (e : Same H H') (h : H p = none) : Same H (upd H' p o) := fun b u q => by
  rw [upd_ne (ne_of_none q h)]
  exact e b u q
theorem Gr.rd {H H' : Hp} {a : Addr} {u : HO} (e : Gr H H') (h : Rd H a u) (n : Still u) : Rd H' a u := by
  rcases h with h | ⟨o, h⟩
  · exact .inl (e.keep a _ h n)
  · exact .inr ⟨o, e.keep a _ h True.intro⟩
section
variable {K : PySem.W.Frag} {H H' : Hp} {a : Addr} {xs : List V}
theorem Gr.l (e : Gr H H') (h : SqL K H a xs) : SqL K H' a xs := by
  rcases h with h | h
  · exact .inl (e.rd h True.intro)
  · exact .inr h
theorem Gr.t (e : Gr H H') (h : SqT K H a xs) : SqT K H' a xs := by
  rcases h with h | h
  · exact .inl (e.rd h True.intro)
  · exact .inr h
end
/-- a pair of texts -/
def isPr : PyData → Bool
  | .tuple [.str _, .str _] => true
  | _ => false
/-- rules: of a tuple of them it is told that its object has no dict -/
def isRs (ds : List PyData) : Bool := !ds.isEmpty && ds.all isPr
def tupHO (b : Bool) (u : Obj) (xs : List V) : HO := if b = true then .frz u (.tup xs) else .tup xs
/-- at a: such a tuple -/
def TupA (H : Hp) (a : Addr) (b : Bool) (xs : List V) : Prop := ∃ u : Obj, u.dict = none ∧ H a = some (tupHO b u xs)
theorem TupA.sq {K : PySem.W.Frag} {H : Hp} {a : Addr} {b : Bool} {xs : List V} (h : TupA H a b xs) : SqT K H a xs := by
  obtain ⟨u, _, h⟩ := h
  cases b with
  | true => exact .inl (.inr ⟨u, h⟩)
  | false => exact .of h
theorem TupA.gr {H H' : Hp} {a : Addr} {b : Bool} {xs : List V} (e : Gr H H') (h : TupA H a b xs) : TupA H' a b xs := by
  obtain ⟨u, hu, h⟩ := h
  refine ⟨u, hu, e.keep _ _ h ?_⟩
  cases b <;> exact True.intro
theorem TupA.plain {H : Hp} {a : Addr} {xs : List V} (h : H a = some (.tup xs)) : TupA H a false xs := ⟨{ cls := .none, data := .fields #[] }, rfl, h⟩
theorem TupA.un {H : Hp} {a : Addr} {xs : List V} (h : TupA H a false xs) : H a = some (.tup xs) := by
  obtain ⟨u, _, h⟩ := h
  exact h
theorem tupHO_lst {b : Bool} {u : Obj} {xs ys : List V} : tupHO b u xs ≠ .lst ys := by
  cases b <;> exact fun z => by cases z
theorem tupHO_dT {b : Bool} {u : Obj} {xs : List V} {ys : List (List Key × V)} : tupHO b u xs ≠ .dT ys := by
  cases b <;> exact fun z => by cases z
theorem tupHO_ins {b : Bool} {u : Obj} {xs : List V} {C d : Addr} {fs : List (Str × V)} : tupHO b u xs ≠ .ins C d fs := by
  cases b <;> exact fun z => by cases z
theorem tupHO_ok {P : Program} {w : World} {H : Hp} {h : Heap} {a : Addr} {b : Bool} {xs : List V} {its : List Value} {u : Obj} (hz : xs.length ≤ sizeLine) (r : Vals xs its) (hu : h.get? a = some u) (ht : IsTup h a its.toArray) : ObjOk P w H h a (tupHO b u xs) := by
  cases b with
  | true => exact ⟨hu, hz, its, r, ht⟩
  | false => exact ⟨hz, its, r, ht⟩
mutual
/-- a value that is this datum, all its tuples and lists our own -/
inductive Dp (K : PySem.W.Frag) (H : Hp) : V → PyData → Prop
  | non : Dp K H .non .none
  | bl (b : Bool) : Dp K H (.bl b) (.bool b)
  | int (i : Int) : Dp K H (.int i) (.int i)
  | str (x : Str) : Dp K H (.str x) (.str x)
  | lst {a : Addr} {xs : List V} {ds : List PyData} (hs : H a = some (.lst xs)) (ha : DpAll K H xs ds) : Dp K H (.ref a) (.list ds)
  | tup {a : Addr} {xs : List V} {ds : List PyData} (hs : TupA H a (isRs ds) xs) (ha : DpAll K H xs ds) : Dp K H (.ref a) (.tuple ds)
inductive DpAll (K : PySem.W.Frag) (H : Hp) : List V → List PyData → Prop
  | nil : DpAll K H [] []
  | cons {v : V} {d : PyData} {vs : List V} {ds : List PyData} (h : Dp K H v d) (hs : DpAll K H vs ds) : DpAll K H (v :: vs) (d :: ds)
end
mutual
/-- the library's reading of it -/
theorem Dp.lib {K : PySem.W.Frag} {H : Hp} : ∀ {d : PyData} {v : V}, Dp K H v d → L2.Dp K H v d
  | .none, _, h => by
    cases h
    exact .non
  | .bool b, _, h => by
    cases h
    exact .bl b
  | .int i, _, h => by
    cases h
    exact .int i
  | .str x, _, h => by
    cases h
    exact .str x
  | .list ds, _, h => by
    cases h with
    | lst hs ha => exact .lst (.of hs) (DpAll.lib ha)
  | .tuple ds, _, h => by
    cases h with
    | tup hs ha => exact .tup hs.sq (DpAll.lib ha)
  | .dict _, _, h => by cases h
theorem DpAll.lib {K : PySem.W.Frag} {H : Hp} : ∀ {ds : List PyData} {vs : List V}, DpAll K H vs ds → L2.DpAll K H vs ds
  | [], _, h => by
    cases h
    exact .nil
  | d :: ds, _, h => by
    cases h with
    | cons h1 h2 => exact .cons (Dp.lib h1) (DpAll.lib h2)
end
mutual
theorem Gr.dp {K : PySem.W.Frag} {H H' : Hp} (e : Gr H H') : ∀ (d : PyData) (v : V), Dp K H v d → Dp K H' v d
  | .none, _, h => by
    cases h
    exact .non
  | .bool b, _, h => by
    cases h
    exact .bl b
  | .int i, _, h => by
    cases h
    exact .int i
  | .str x, _, h => by
    cases h
    exact .str x
  | .list ds, _, h => by
    cases h with
    | lst hs ha => exact .lst (e.keep _ _ hs True.intro) (Gr.dpAll e ds _ ha)
  | .tuple ds, _, h => by
    cases h with
    | tup hs ha => exact .tup (hs.gr e) (Gr.dpAll e ds _ ha)
  | .dict _, _, h => by cases h
theorem Gr.dpAll {K : PySem.W.Frag} {H H' : Hp} (e : Gr H H') : ∀ (ds : List PyData) (vs : List V), DpAll K H vs ds → DpAll K H' vs ds
  | [], _, h => by
    cases h
    exact .nil
  | d :: ds, _, h => by
    cases h with
    | cons h1 h2 => exact .cons (Gr.dp e d _ h1) (Gr.dpAll e ds _ h2)
end

/-! .. of what may be written, too -/
mutual
theorem Gr.dn {K : PySem.W.Frag} {H H' : Hp} (e : Gr H H') : ∀ (d : PyData) (v : V), L2.Dp K H v d → L2.Dp K H' v d
  | .none, _, h => by
    cases h
    exact .non
  | .bool b, _, h => by
    cases h
    exact .bl b
  | .int i, _, h => by
    cases h
    exact .int i
  | .str x, _, h => by
    cases h
    exact .str x
  | .list ds, _, h => by
    cases h with
    | lst hs ha => exact .lst (e.l hs) (Gr.dnAll e ds _ ha)
  | .tuple ds, _, h => by
    cases h with
    | tup hs ha => exact .tup (e.t hs) (Gr.dnAll e ds _ ha)
  | .dict _, _, h => by cases h
theorem Gr.dnAll {K : PySem.W.Frag} {H H' : Hp} (e : Gr H H') : ∀ (ds : List PyData) (vs : List V), L2.DpAll K H vs ds → L2.DpAll K H' vs ds
  | [], _, h => by
    cases h
    exact .nil
  | d :: ds, _, h => by
    cases h with
    | cons h1 h2 => exact .cons (Gr.dn e d _ h1) (Gr.dnAll e ds _ h2)
end

/-! ### types -/
structure Ty where
  p : Hp → V → Prop
  st : ∀ {H H' : Hp} {v : V}, Gr H H' → p H v → p H' v
/-- a value that is the datum d -/
def tyD (K : PySem.W.Frag) (d : PyData) : Ty := ⟨fun H v => Dp K H v d, fun e h => Gr.dp e d _ h⟩
/-- .. that may be written -/
def tyN (K : PySem.W.Frag) (d : PyData) : Ty := ⟨fun H v => L2.Dp K H v d, fun e h => Gr.dn e d _ h⟩
/-- this very value -/
def tyV (x : V) : Ty := ⟨fun _ v => v = x, fun _ h => h⟩
/-- the drawing dict -/
def tyFeed : Ty := ⟨fun H v => (∃ f cl, v = .ref f ∧ FeedOk f cl H) ∧ LamX.Tabs tabsT H, fun e ⟨⟨f, cl, h1, h2⟩, h3⟩ => ⟨⟨f, cl, h1, e.feed f cl h2⟩, e.tab h3⟩⟩
/-- one of several -/
def tyEx {ι : Type} (P : ι → Prop) (T : ι → Ty) : Ty := ⟨fun H v => ∃ i, P i ∧ (T i).p H v, fun e ⟨i, h1, h2⟩ => ⟨i, h1, (T i).st e h2⟩⟩
/-- a tuple of two values of these types -/
def tyP (K : PySem.W.Frag) (A B : Ty) : Ty := ⟨fun H v => ∃ a x y, v = .ref a ∧ SqT K H a [x, y] ∧ A.p H x ∧ B.p H y, fun e ⟨a, x, y, h1, h2, h3, h4⟩ => ⟨a, x, y, h1, e.t h2, A.st e h3, B.st e h4⟩⟩
def tyP3 (K : PySem.W.Frag) (A B C : Ty) : Ty := ⟨fun H v => ∃ a x y z, v = .ref a ∧ SqT K H a [x, y, z] ∧ A.p H x ∧ B.p H y ∧ C.p H z, fun e ⟨a, x, y, z, h1, h2, h3, h4, h5⟩ => ⟨a, x, y, z, h1, e.t h2, A.st e h3, B.st e h4, C.st e h5⟩⟩
/-- a list that this run made: these data -/
def tyTL (K : PySem.W.Frag) (ds : List PyData) : Ty := ⟨fun H v => ∃ a xs, v = .ref a ∧ H a = some (.lst xs) ∧ DpAll K H xs ds, fun e ⟨a, xs, h1, h2, h3⟩ => ⟨a, xs, h1, e.keep a _ h2 True.intro, Gr.dpAll e _ _ h3⟩⟩
def Ty.le (A B : Ty) : Prop := ∀ H v, A.p H v → B.p H v
theorem Ty.le.rfl {A : Ty} : A.le A := fun _ _ h => h
theorem tyD_n {K : PySem.W.Frag} {d : PyData} : (tyD K d).le (tyN K d) := fun H v h => Dp.lib h
theorem tyTL_le {K : PySem.W.Frag} {ds : List PyData} : (tyTL K ds).le (tyD K (.list ds)) := fun H v ⟨a, xs, h1, h2, h3⟩ => by
  subst h1
  exact .lst h2 h3
abbrev Rho := List (Option Ty)
/-- the slots hold values of these types -/
def EnvT (H : Hp) : L2.St → Rho → Prop
  | [], [] => True
  | v :: σ, t :: ρ => (match t with
    | none => True
    | some t => ∃ x, v = some x ∧ t.p H x) ∧ EnvT H σ ρ
  | _, _ => False
section
variable {H H' : Hp}
theorem EnvT.mono (e : Gr H H') : ∀ {σ : L2.St} {ρ : Rho}, EnvT H σ ρ → EnvT H' σ ρ
  | [], [], h => h
  | v :: σ, t :: ρ, h => by
    obtain ⟨h1, h2⟩ := h
    refine ⟨?_, EnvT.mono e h2⟩
    cases t with
    | none => exact True.intro
    | some t =>
      obtain ⟨x, e1, e2⟩ := h1
      exact ⟨x, e1, t.st e e2⟩
theorem EnvT.get : ∀ {σ : L2.St} {ρ : Rho} {i : Nat} {T : Ty}, EnvT H σ ρ → ρ[i]? = some (some T) → ∃ x, σ[i]? = some (some x) ∧ T.p H x
  | [], [], i, T, _, e => by simp at e
  | v :: σ, t :: ρ, 0, T, h, e => by
    have e' : t = some T := by simpa using e
    subst e'
    obtain ⟨⟨x, e1, e2⟩, _⟩ := h
    subst e1
    exact ⟨x, by simp, e2⟩
  | v :: σ, t :: ρ, i + 1, T, h, e => by
    obtain ⟨x, h1, h2⟩ := EnvT.get (i := i) h.2 (by simpa using e)
    exact ⟨x, by simpa using h1, h2⟩
theorem EnvT.set {x : V} {T : Ty} (hx : T.p H x) : ∀ {σ : L2.St} {ρ : Rho} (i : Nat), EnvT H σ ρ → EnvT H (σ.set i (some x)) (ρ.set i (some T))
  | [], [], _, h => h
  | v :: σ, t :: ρ, 0, h => ⟨⟨x, rfl, hx⟩, h.2⟩
  | v :: σ, t :: ρ, i + 1, h => ⟨h.1, EnvT.set hx i h.2⟩
theorem EnvT.unset : ∀ {σ : L2.St} {ρ : Rho} (i : Nat) (o : Option V), EnvT H σ ρ → EnvT H (σ.set i o) (ρ.set i none)
  | [], [], _, _, h => h
  | v :: σ, t :: ρ, 0, o, h => ⟨True.intro, h.2⟩
  | v :: σ, t :: ρ, i + 1, o, h => ⟨h.1, EnvT.unset i o h.2⟩
/-- less known -/
theorem EnvT.less : ∀ {σ : L2.St} {ρ : Rho} (i : Nat), EnvT H σ ρ → EnvT H σ (ρ.set i none)
  | [], [], _, h => h
  | v :: σ, t :: ρ, 0, h => ⟨True.intro, h.2⟩
  | v :: σ, t :: ρ, i + 1, h => ⟨h.1, EnvT.less i h.2⟩
def wipeR (ρ : Rho) : List Nat → Rho
  | [] => ρ
  | v :: vs => (wipeR ρ vs).set v none
theorem EnvT.wipe {σ : L2.St} {ρ : Rho} (h : EnvT H σ ρ) : ∀ vs : List Nat, EnvT H (L2.wipe σ vs) (wipeR ρ vs)
  | [] => h
  | v :: vs => EnvT.unset v none (EnvT.wipe h vs)
def AllT (H : Hp) : List V → List Ty → Prop
  | [], [] => True
  | v :: vs, t :: ts => t.p H v ∧ AllT H vs ts
  | _, _ => False
theorem AllT.mono (e : Gr H H') : ∀ {vs : List V} {ts : List Ty}, AllT H vs ts → AllT H' vs ts
  | [], [], h => h
  | v :: vs, t :: ts, h => ⟨t.st e h.1, AllT.mono e h.2⟩
theorem AllT.length : ∀ {vs : List V} {ts : List Ty}, AllT H vs ts → vs.length = ts.length
  | [], [], _ => rfl
  | v :: vs, t :: ts, h => by
    have q := AllT.length h.2
    simp [q]
theorem AllT.app : ∀ {vs ws : List V} {ts us : List Ty}, AllT H vs ts → AllT H ws us → AllT H (vs ++ ws) (ts ++ us)
  | [], _, [], _, _, h2 => h2
  | v :: vs, _, t :: ts, _, h1, h2 => ⟨h1.1, AllT.app h1.2 h2⟩
theorem envT_nones : ∀ n : Nat, EnvT H (List.replicate n none) (List.replicate n none)
  | 0 => True.intro
  | n + 1 => ⟨True.intro, envT_nones n⟩
theorem EnvT.app : ∀ {σ σ2 : L2.St} {ρ ρ2 : Rho}, EnvT H σ ρ → EnvT H σ2 ρ2 → EnvT H (σ ++ σ2) (ρ ++ ρ2)
  | [], _, [], _, _, h2 => h2
  | v :: σ, _, t :: ρ, _, h1, h2 => ⟨h1.1, EnvT.app h1.2 h2⟩
theorem envT_args : ∀ {vs : List V} {ts : List Ty}, AllT H vs ts → EnvT H (vs.map some) (ts.map some)
  | [], [], _ => True.intro
  | v :: vs, t :: ts, h => ⟨⟨v, rfl, h.1⟩, envT_args h.2⟩
/-- the types at a def's entry -/
def startR (n : Nat) (ts : List Ty) : Rho := ts.map some ++ List.replicate (n - ts.length) none
theorem envT_start {N : List Str} {vs : List V} {ts : List Ty} (h : AllT H vs ts) : EnvT H (L2.start N vs) (startR N.length ts) := by
  unfold L2.start startR
  rw [h.length]
  exact (envT_args h).app (envT_nones _)
end

/-! ### the readings by types -/
def tT (ρ : Rho) (T : Ty) : TE := fun σ H Q => EnvT H σ ρ ∧ ∀ v H', Gr H H' → T.p H' v → Q v H'
def tTA (ρ : Rho) (Ts : List Ty) : TA := fun σ H Q => EnvT H σ ρ ∧ ∀ vs H', Gr H H' → AllT H' vs Ts → Q vs H'
def tTB (ρ : Rho) (b : Bool) : TT := fun σ H Q => EnvT H σ ρ ∧ ∀ H', Gr H H' → Q b H'
def tTO (ρ : Rho) (o : Option Int) : TO := fun σ H Q => EnvT H σ ρ ∧ ∀ H', Gr H H' → Q o H'
section
variable {X : Cx}
theorem pe_weak {e : Expr} {t t' : TE} (h : PE X e t) (w : ∀ σ H Q, t' σ H Q → t σ H Q) : PE X e t' := ⟨fun pins s σ H Q I q => h.run pins s σ H Q I (w σ H Q q)⟩
theorem pt_weak {e : Expr} {t t' : TT} (h : PT X e t) (w : ∀ σ H Q, t' σ H Q → t σ H Q) : PT X e t' := ⟨fun pins s σ H Q I q => h.run pins s σ H Q I (w σ H Q q)⟩
theorem pw_weak {e : Expr} {t t' : TT} (h : PW X e t) (w : ∀ σ H Q, t' σ H Q → t σ H Q) : PW X e t' := ⟨fun wh pins s σ H Q I q => h.run wh pins s σ H Q I (w σ H Q q)⟩
theorem pa_weak {es : List Expr} {t t' : TA} (h : PA X es t) (w : ∀ σ H Q, t' σ H Q → t σ H Q) : PA X es t' := ⟨fun pos pins s σ H Q I q => h.run pos pins s σ H Q I (w σ H Q q)⟩
theorem ps_weak {st : Stmt} {t t' : TS} (h : PS X st t) (w : ∀ D σ H, t' D σ H → t D σ H) : PS X st t' := ⟨fun pins s σ H D I q => h.run pins s σ H D I (w D σ H q)⟩
theorem pss_weak {st : List Stmt} {t t' : TS} (h : PSs X st t) (w : ∀ D σ H, t' D σ H → t D σ H) : PSs X st t' := ⟨fun pins s σ H D I q => h.run pins s σ H D I (w D σ H q)⟩
theorem pt_none {e : Expr} : PT X e (fun _ _ _ => False) := ⟨fun _ _ _ _ _ _ q => q.elim⟩
theorem pe_none {e : Expr} : PE X e (fun _ _ _ => False) := ⟨fun _ _ _ _ _ _ q => q.elim⟩
theorem pw_none {e : Expr} : PW X e (fun _ _ _ => False) := ⟨fun _ _ _ _ _ _ _ q => q.elim⟩
variable {a b e : Expr} {pos : Pos} {ρ : Rho} {A B T : Ty}
theorem te_le (h : PE X e (tT ρ A)) (l : A.le B) : PE X e (tT ρ B) := pe_weak h fun σ H Q q => ⟨q.1, fun v H' e' p => q.2 v H' e' (l H' v p)⟩
theorem te_var (i : Nat) {x : Str} (hT : ρ[i]? = some (some T) := by rfl) (hN : X.N[i]? = some x := by rfl) (hv : Vis X.env.scope x := by first | exact Or.inl rfl | exact Or.inr (Or.inl rfl) | exact Or.inr (Or.inr rfl)) (hd : (x == ("__debug__" : Str)) = false := by decide)
    (hcd : (x == ("__classdict__" : Str)) = false := by decide) : PE X (.Name x pos) (tT ρ T) := pe_weak (pe_var hN hv hd hcd) fun σ H Q q => by
  obtain ⟨x, h1, h2⟩ := q.1.get hT
  exact ⟨x, h1, q.2 x H (Gr.refl H) h2⟩
/-- a value that is written -/
theorem te_c {v : V} (h : PE X e (tC v)) (hv : ∀ H, T.p H v) : PE X e (tT ρ T) := pe_weak h fun σ H Q q => q.2 v H (Gr.refl H) (hv H)
theorem te_int {i j} : PE X (.Constant (.int i) j pos) (tT ρ (tyD X.K (.int i))) := te_c pe_int fun _ => .int i
theorem te_bl {i j} : PE X (.Constant (.bool i) j pos) (tT ρ (tyD X.K (.bool i))) := te_c pe_bl fun _ => .bl i
theorem te_non {j} : PE X (.Constant .none j pos) (tT ρ (tyD X.K .none)) := te_c pe_non fun _ => .non
theorem te_str {i j} : PE X (.Constant (.str i) j pos) (tT ρ (tyD X.K (.str i))) := te_c pe_str fun _ => .str i
/-- two expressions, an operator by values -/
theorem te_op {op : Operator} {r : R2} (ho : OpR X (binaryOp op) r) (ha : PE X a (tT ρ A)) (hb : PE X b (tT ρ B))
    (hr : ∀ x y H (Q : VK), A.p H x → B.p H y → (∀ v H', Gr H H' → T.p H' v → Q v H') → r x y H Q) : PE X (.BinOp a op b pos) (tT ρ T) := pe_weak (pe_op ho ha hb) fun σ H Q q =>
  ⟨q.1, fun x H1 e1 hx => ⟨q.1.mono e1, fun y H2 e2 hy => hr x y H2 Q (A.st e2 hx) hy fun v H' e' p => q.2 v H' ((e1.trans e2).trans e') p⟩⟩
theorem te_cmp {op : CmpOp} {r : R2} (ho : OpR X (compareOp op) r) (ha : PE X a (tT ρ A)) (hb : PE X b (tT ρ B))
    (hr : ∀ x y H (Q : VK), A.p H x → B.p H y → (∀ v H', Gr H H' → T.p H' v → Q v H') → r x y H Q) (hm : behindInMarks op b = false) : PE X (.Compare a [op] [b] pos) (tT ρ T) := pe_weak (pe_cmpR ho ha hb hm) fun σ H Q q =>
  ⟨q.1, fun x H1 e1 hx => ⟨q.1.mono e1, fun y H2 e2 hy => hr x y H2 Q (A.st e2 hx) hy fun v H' e' p => q.2 v H' ((e1.trans e2).trans e') p⟩⟩
theorem tt_cmp {op : CmpOp} {r : R2} {c : Bool} (ho : OpR X (compareOp op) r) (ha : PE X a (tT ρ A)) (hb : PE X b (tT ρ B))
    (hr : ∀ x y H (Q : VK), A.p H x → B.p H y → Q (.bl c) H → r x y H Q) (hm : behindInMarks op b = false) : PT X (.Compare a [op] [b] pos) (tTB ρ c) := pt_weak (pt_cmpR ho ha hb hm) fun σ H Q q =>
  ⟨q.1, fun x H1 e1 hx => ⟨q.1.mono e1, fun y H2 e2 hy => hr x y H2 _ (A.st e2 hx) hy ⟨c, rfl, q.2 H2 (e1.trans e2)⟩⟩⟩
theorem te_ix {r : R2} (hi : IxR X r) (ha : PE X a (tT ρ A)) (hb : PE X b (tT ρ B))
    (hr : ∀ x y H (Q : VK), A.p H x → B.p H y → (∀ v H', Gr H H' → T.p H' v → Q v H') → r x y H Q) (hs : PlainIx b := by exact fun _ _ => rfl) : PE X (.Subscript a b pos) (tT ρ T) := pe_weak (pe_ix hi ha hb hs) fun σ H Q q =>
  ⟨q.1, fun x H1 e1 hx => ⟨q.1.mono e1, fun y H2 e2 hy => hr x y H2 Q (A.st e2 hx) hy fun v H' e' p => q.2 v H' ((e1.trans e2).trans e') p⟩⟩
/-! tests -/
theorem tt_val {c : Bool} (h : PE X e (tT ρ (tyD X.K (.bool c)))) (he : ∀ whole, isTrue e X.env whole = (do let v ← whole; standAt e.pos; holding [v] (truthy v)) := by intro _; rfl) : PT X e (tTB ρ c) := pt_weak (pt_val h he) fun σ H Q q =>
  ⟨q.1, fun x H1 e1 hx => by
    cases (show Dp X.K H1 x (.bool c) from hx)
    exact ⟨c, rfl, q.2 H1 e1⟩⟩
theorem tt_not {c : Bool} (h : PT X a (tTB ρ c)) : PT X (.UnaryOp .Not a pos) (tTB ρ (!c)) := pt_weak (pt_not h) fun σ H Q q => ⟨q.1, fun H1 e1 => q.2 H1 e1⟩
theorem tw_and1 {c : Bool} (h : PT X a (tTB ρ c)) : PW X (.BoolOp .And [a] pos) (tTB ρ c) := pw_and1 h
theorem tw_or1 {c : Bool} (h : PT X a (tTB ρ c)) : PW X (.BoolOp .Or [a] pos) (tTB ρ c) := pw_or1 h
theorem tw_and {rest : List Expr} {c d : Bool} (h : PT X a (tTB ρ c)) (hb : c = true → PW X (.BoolOp .And (b :: rest) pos) (tTB ρ d)) : PW X (.BoolOp .And (a :: b :: rest) pos) (tTB ρ (c && d)) := by
  cases c with
  | true => exact pw_weak (pw_and h (hb rfl)) fun σ H Q q => ⟨q.1, fun H1 e1 => iteT ⟨q.1.mono e1, fun H2 e2 => q.2 H2 (e1.trans e2)⟩⟩
  | false => exact pw_weak (pw_and h pw_none) fun σ H Q q => ⟨q.1, fun H1 e1 => iteF (q.2 H1 e1)⟩
theorem tw_or {rest : List Expr} {c d : Bool} (h : PT X a (tTB ρ c)) (hb : c = false → PW X (.BoolOp .Or (b :: rest) pos) (tTB ρ d)) : PW X (.BoolOp .Or (a :: b :: rest) pos) (tTB ρ (c || d)) := by
  cases c with
  | true => exact pw_weak (pw_or h pw_none) fun σ H Q q => ⟨q.1, fun H1 e1 => iteT (q.2 H1 e1)⟩
  | false => exact pw_weak (pw_or h (hb rfl)) fun σ H Q q => ⟨q.1, fun H1 e1 => iteF ⟨q.1.mono e1, fun H2 e2 => q.2 H2 (e1.trans e2)⟩⟩
theorem tt_is {c d : Bool} (h : PT X a (tTB ρ c)) (e : c = d) : PT X a (tTB ρ d) := e ▸ h
/-! bools as values -/
theorem te_and {rest : List Expr} {c d : Bool} (h : PE X a (tT ρ (tyD X.K (.bool c)))) (hb : c = true → PE X (.BoolOp .And (b :: rest) pos) (tT ρ (tyD X.K (.bool d)))) : PE X (.BoolOp .And (a :: b :: rest) pos) (tT ρ (tyD X.K (.bool (c && d)))) := by
  cases c with
  | true => exact pe_weak (pe_and h (hb rfl)) fun σ H Q q => ⟨q.1, fun x H1 e1 hx => by
      cases (show Dp X.K H1 x (.bool true) from hx)
      exact ⟨true, rfl, iteT ⟨q.1.mono e1, fun v H2 e2 p => q.2 v H2 (e1.trans e2) p⟩⟩⟩
  | false => exact pe_weak (pe_and h pe_none) fun σ H Q q => ⟨q.1, fun x H1 e1 hx => by
      cases (show Dp X.K H1 x (.bool false) from hx)
      exact ⟨false, rfl, iteF (q.2 _ H1 e1 (Dp.bl false))⟩⟩
theorem te_or {rest : List Expr} {c d : Bool} (h : PE X a (tT ρ (tyD X.K (.bool c)))) (hb : c = false → PE X (.BoolOp .Or (b :: rest) pos) (tT ρ (tyD X.K (.bool d)))) : PE X (.BoolOp .Or (a :: b :: rest) pos) (tT ρ (tyD X.K (.bool (c || d)))) := by
  cases c with
  | true => exact pe_weak (pe_or h pe_none) fun σ H Q q => ⟨q.1, fun x H1 e1 hx => by
      cases (show Dp X.K H1 x (.bool true) from hx)
      exact ⟨true, rfl, iteT (q.2 _ H1 e1 (Dp.bl true))⟩⟩
  | false => exact pe_weak (pe_or h (hb rfl)) fun σ H Q q => ⟨q.1, fun x H1 e1 hx => by
      cases (show Dp X.K H1 x (.bool false) from hx)
      exact ⟨false, rfl, iteF ⟨q.1.mono e1, fun v H2 e2 p => q.2 v H2 (e1.trans e2) p⟩⟩⟩
theorem te_one {op} (h : PE X a (tT ρ T)) : PE X (.BoolOp op [a] pos) (tT ρ T) := pe_one h
theorem te_not {c : Bool} (h : PE X a (tT ρ (tyD X.K (.bool c)))) : PE X (.UnaryOp .Not a pos) (tT ρ (tyD X.K (.bool (!c)))) := pe_weak (pe_not h) fun σ H Q q => ⟨q.1, fun x H1 e1 hx => by
  cases (show Dp X.K H1 x (.bool c) from hx)
  exact ⟨c, rfl, q.2 _ H1 e1 (Dp.bl _)⟩⟩
theorem te_ite {t : Expr} {c : Bool} (h : PT X t (tTB ρ c)) (ha : c = true → PE X a (tT ρ T)) (hb : c = false → PE X b (tT ρ T)) : PE X (.IfExp t a b pos) (tT ρ T) := by
  cases c with
  | true => exact pe_weak (pe_ifExp h (ha rfl) pe_none) fun σ H Q q => ⟨q.1, fun H1 e1 => iteT ⟨q.1.mono e1, fun v H2 e2 p => q.2 v H2 (e1.trans e2) p⟩⟩
  | false => exact pe_weak (pe_ifExp h pe_none (hb rfl)) fun σ H Q q => ⟨q.1, fun H1 e1 => iteF ⟨q.1.mono e1, fun v H2 e2 p => q.2 v H2 (e1.trans e2) p⟩⟩
/-! arguments, displays -/
theorem ta_nil : PA X [] (tTA ρ []) := pa_weak pa_nil fun σ H Q q => q.2 [] H (Gr.refl H) True.intro
theorem ta_cons {es : List Expr} {Ts : List Ty} (h : PE X e (tT ρ T)) (hr : PA X es (tTA ρ Ts)) (hs : starEach (e :: es) X.env = (false, eval e X.env) :: starEach es X.env := by rfl) : PA X (e :: es) (tTA ρ (T :: Ts)) := pa_weak (pa_cons h hr hs) fun σ H Q q =>
  ⟨q.1, fun x H1 e1 hx => ⟨q.1.mono e1, fun vs H2 e2 hv => q.2 (x :: vs) H2 (e1.trans e2) ⟨T.st e2 hx, hv⟩⟩⟩
theorem AllT.data {K : PySem.W.Frag} {H : Hp} : ∀ {vs : List V} {ds : List PyData}, AllT H vs (ds.map (tyD K)) → DpAll K H vs ds
  | [], [], _ => .nil
  | _ :: _, d :: ds, h => .cons h.1 (AllT.data h.2)
theorem AllT.ofData {K : PySem.W.Frag} {H : Hp} : ∀ {vs : List V} {ds : List PyData}, DpAll K H vs ds → AllT H vs (ds.map (tyD K))
  | [], [], _ => True.intro
  | _ :: _, d :: ds, h => by
    cases h with
    | cons h1 h2 => exact ⟨h1, AllT.ofData h2⟩
theorem DpAll.length {K : PySem.W.Frag} {H : Hp} : ∀ {vs : List V} {ds : List PyData}, DpAll K H vs ds → vs.length = ds.length
  | [], [], _ => rfl
  | _ :: _, _ :: _, h => by
    cases h with
    | cons h1 h2 => simp [DpAll.length h2]
theorem DpAll.get {K : PySem.W.Frag} {H : Hp} : ∀ {vs : List V} {ds : List PyData} {i : Nat} {d : PyData}, DpAll K H vs ds → ds[i]? = some d → ∃ v, vs[i]? = some v ∧ Dp K H v d
  | [], [], i, d, _, e => by simp at e
  | v :: vs, d :: ds, 0, d', h, e => by
    cases h with
    | cons h1 h2 =>
      have e' : d = d' := by simpa using e
      subst e'
      exact ⟨v, by simp, h1⟩
  | v :: vs, d :: ds, i + 1, d', h, e => by
    cases h with
    | cons h1 h2 =>
      obtain ⟨x, e1, e2⟩ := DpAll.get (i := i) h2 (by simpa using e)
      exact ⟨x, by simpa using e1, e2⟩
theorem Dp.tupP {K : PySem.W.Frag} {H : Hp} {a : Addr} {xs : List V} {ds : List PyData} (n : isRs ds = false) (hs : H a = some (.tup xs)) (ha : DpAll K H xs ds) : Dp K H (.ref a) (.tuple ds) := .tup (by rw [n]; exact .plain hs) ha
/-- a display: the new object is told, too -/
theorem pe_tupB {x1} {es : List Expr} {t : TA} (b : Bool) (h : PA X es t) : PE X (.Tuple es x1 pos) (fun σ H Q => t σ H fun xs H1 => xs.length ≤ sizeLine ∧ ∀ p u, u.dict = none → H1 p = none → Q (.ref p) (upd H1 p (tupHO b u xs))) := by
  refine ⟨fun pins s σ H Q I hq => wpAny_Tuple_spliced (thn (h.run pos pins s σ H _ I hq) fun us s1 ⟨xs, H1, I1, r, z, q⟩ => ⟨by rw [← r.length]; exact z, ?_⟩)⟩
  exact ⟨.ref s1.heap.objs.size, _, I1.laid (t' := s1.toks) (o := tupHO b _ xs) (fun b u e => Heap.get?_push_of_some _ e) (Nat.le_refl _) (tupHO_ok z r (Heap.get?_push_size _ rfl) ⟨_, Heap.get?_push_size _ rfl, rfl, _, rfl⟩), rfl, q _ _ rfl (I1.hok.fresh (Nat.le_refl _))⟩
theorem te_tup {es : List Expr} {x1} {ds : List PyData} (h : PA X es (tTA ρ (ds.map (tyD X.K)))) (hl : ds.length ≤ 100000 := by first | decide | exact Nat.le_of_ble_eq_true rfl) : PE X (.Tuple es x1 pos) (tT ρ (tyD X.K (.tuple ds))) := pe_weak (pe_tupB (isRs ds) h) fun σ H Q q =>
  ⟨q.1, fun vs H1 e1 hv => ⟨by
    rw [hv.length, List.length_map, sizeLine_eq]
    omega, fun p u hu hp => q.2 _ _ (e1.trans (Gr.new hp)) (Dp.tup ⟨u, hu, upd_same⟩ (Gr.dpAll (Gr.new hp) _ _ (AllT.data hv)))⟩⟩
theorem te_lst {es : List Expr} {ds : List PyData} (h : PA X es (tTA ρ (ds.map (tyD X.K)))) (hl : ds.length ≤ 100000 := by first | decide | exact Nat.le_of_ble_eq_true rfl) : PE X (.List es pos) (tT ρ (tyTL X.K ds)) := pe_weak (pe_lst h) fun σ H Q q =>
  ⟨q.1, fun vs H1 e1 hv => ⟨by
    rw [hv.length, List.length_map, sizeLine_eq]
    omega, fun p hp => q.2 _ _ (e1.trans (Gr.new hp)) ⟨p, vs, rfl, upd_same, Gr.dpAll (Gr.new hp) _ _ (AllT.data hv)⟩⟩⟩
/-- a tuple of two things -/
theorem te_pair {es : List Expr} {x1} (h : PA X es (tTA ρ [A, B])) : PE X (.Tuple es x1 pos) (tT ρ (tyP X.K A B)) := pe_weak (pe_tup h) fun σ H Q q =>
  ⟨q.1, fun vs H1 e1 hv => by
    match vs, hv with
    | [x, y], hv =>
      exact ⟨by show 2 ≤ sizeLine; decide, fun p hp => q.2 _ _ (e1.trans (Gr.new hp)) ⟨p, x, y, rfl, .of upd_same, A.st (Gr.new hp) hv.1, B.st (Gr.new hp) hv.2.1⟩⟩⟩
theorem te_trip {C : Ty} {es : List Expr} {x1} (h : PA X es (tTA ρ [A, B, C])) : PE X (.Tuple es x1 pos) (tT ρ (tyP3 X.K A B C)) := pe_weak (pe_tup h) fun σ H Q q =>
  ⟨q.1, fun vs H1 e1 hv => by
    match vs, hv with
    | [x, y, z], hv =>
      exact ⟨by show 3 ≤ sizeLine; decide, fun p hp => q.2 _ _ (e1.trans (Gr.new hp)) ⟨p, x, y, z, rfl, .of upd_same, A.st (Gr.new hp) hv.1, B.st (Gr.new hp) hv.2.1, C.st (Gr.new hp) hv.2.2.1⟩⟩⟩

/-! ### calls -/
/-- a def's promise by types -/
def spT {ι : Type} (A : ι → List Ty) (R : ι → Ty) : Sp := fun vs H Q _ => ∃ i, AllT H vs (A i) ∧ ∀ v H', Gr H H' → (R i).p H' v → Q v H'
theorem te_call {ι : Type} {CX : CXT} {k : Nat} {f : Addr} {fd : FuncData} {ps : List Str} {Ai : ι → List Ty} {Ri : ι → Ty} {ds : List Value} {dvs : List V} {x : Str} {es : List Expr} {Ts Ds : List Ty} {p : Pos} (F : FnOk X.prog X.w X.K X.mg X.base CX k f fd ps (spT Ai Ri)) (hr : Room k X.A) (hm : X.mg x = some (.ref f)) (hk : PySem.W.keepIn X.K (.ref f) = true)
    (hb : Binds X.K fd ps ds) (hd : Vals dvs ds) (hx : Passes CX X E0) (ha : PA X (e :: es) (tTA ρ Ts)) (i : ι) (hdv : ∀ H, AllT H dvs Ds) (hi : Ai i = Ts ++ Ds) (hg : Gl X x := by rfl)
    (he : starEach (e :: es) X.env = (false, eval e X.env) :: starEach es X.env := by rfl) (hpl : (backTo pos (starEach es X.env)).any (·.1) = false := by rfl) (hdb : (x == ("__debug__" : Str)) = false := by decide) : PE X (.Call (.Name x p) (e :: es) [] pos) (tT ρ (Ri i)) :=
  pe_weak (pe_call F hr hg hm hk hb hd hx ha hdb he hpl) fun σ H Q q => ⟨q.1, fun vs H1 e1 hv => ⟨i, by
    rw [hi]
    exact hv.app (hdv H1), fun v H' e' p => q.2 v H' (e1.trans e') p⟩⟩
/-- a built-in by its name -/
theorem te_callB {id : String} {r : List V → Hp → VK → Prop} {x : Str} {es : List Expr} {Ts : List Ty} {p : Pos} (hc : CallR X (.builtin id) r) (hm : X.mg x = none) (hv : bootBuiltins x = some (.builtin id)) (ha : PA X (e :: es) (tTA ρ Ts))
    (hr : ∀ vs H (Q : VK), AllT H vs Ts → (∀ v H', Gr H H' → T.p H' v → Q v H') → r vs H Q) (hg : Gl X x := by rfl) (hn : x ≠ "__name__" := by decide) (hdb : (x == ("__debug__" : Str)) = false := by decide)
    (he : starEach (e :: es) X.env = (false, eval e X.env) :: starEach es X.env := by rfl) (hpl : (backTo pos (starEach es X.env)).any (·.1) = false := by rfl) : PE X (.Call (.Name x p) (e :: es) [] pos) (tT ρ T) :=
  pe_weak (pe_callB hc hg hm hv ha hn hdb he hpl) fun σ H Q q => ⟨q.1, fun vs H1 e1 hv => hr vs H1 Q hv fun v H' e' p => q.2 v H' (e1.trans e') p⟩
theorem te_callTy {id : String} {r : List V → Hp → VK → Prop} {x : Str} {es : List Expr} {Ts : List Ty} {p : Pos} (hc : CallR X (.type id) r) (hm : X.mg x = none) (hv : bootBuiltins x = some (.type id)) (ha : PA X (e :: es) (tTA ρ Ts))
    (hr : ∀ vs H (Q : VK), AllT H vs Ts → (∀ v H', Gr H H' → T.p H' v → Q v H') → r vs H Q) (hg : Gl X x := by rfl) (hn : x ≠ "__name__" := by decide) (hdb : (x == ("__debug__" : Str)) = false := by decide)
    (he : starEach (e :: es) X.env = (false, eval e X.env) :: starEach es X.env := by rfl) (hpl : (backTo pos (starEach es X.env)).any (·.1) = false := by rfl) : PE X (.Call (.Name x p) (e :: es) [] pos) (tT ρ T) :=
  pe_weak (pe_callTy hc hg hm hv ha hn hdb he hpl) fun σ H Q q => ⟨q.1, fun vs H1 e1 hv => hr vs H1 Q hv fun v H' e' p => q.2 v H' (e1.trans e') p⟩
end
end K14
/-! KB: statements, loops, comprehensions and defs by types. -/
namespace K14
open PySem PySem.Spec PyProof.Rows L2

/-! ### statements -/
structure TEnds where
  nx : Rho → Prop
  rt : Ty
  bk : Rho → Prop := fun _ => False
  ct : Rho → Prop := fun _ => False
structure Meets (D : TEnds) (D0 : Ends) (H : Hp) : Prop where
  nx : ∀ ρ' σ' H', D.nx ρ' → EnvT H' σ' ρ' → Gr H H' → D0.nx σ' H'
  rt : ∀ v H', Gr H H' → D.rt.p H' v → D0.rt v H'
  bk : ∀ ρ' σ' H', D.bk ρ' → EnvT H' σ' ρ' → Gr H H' → D0.bk σ' H'
  ct : ∀ ρ' σ' H', D.ct ρ' → EnvT H' σ' ρ' → Gr H H' → D0.ct σ' H'
theorem Meets.mono {D : TEnds} {D0 : Ends} {H H1 : Hp} (m : Meets D D0 H) (e : Gr H H1) : Meets D D0 H1 :=
  ⟨fun ρ' σ' H' a b c => m.nx ρ' σ' H' a b (e.trans c), fun v H' c a => m.rt v H' (e.trans c) a, fun ρ' σ' H' a b c => m.bk ρ' σ' H' a b (e.trans c), fun ρ' σ' H' a b c => m.ct ρ' σ' H' a b (e.trans c)⟩
def tS (ρ : Rho) (D : TEnds) : TS := fun D0 σ H => EnvT H σ ρ ∧ Meets D D0 H
section
variable {X : Cx} {st : Stmt} {rest body orelse : List Stmt} {ρ : Rho} {D : TEnds} {e : Expr} {T A : Ty} {pos : Pos}
theorem ts_nil (h : D.nx ρ) : PSs X [] (tS ρ D) := pss_weak pss_nil fun D0 σ H q => q.2.nx ρ σ H h q.1 (Gr.refl H)
/-- one of several blocks' readings -/
theorem pss_some {ι : Sort _} {P : ι → Prop} {t : ι → TS} {sts : List Stmt} (h : ∀ i, P i → PSs X sts (t i)) : PSs X sts (fun D0 σ H => ∃ i, P i ∧ t i D0 σ H) := ⟨fun pins s σ H D0 I ⟨i, p, q⟩ => (h i p).run pins s σ H D0 I q⟩
theorem ts_cons (h : PS X st (tS ρ { D with nx := fun ρ' => PSs X rest (tS ρ' D) })) : PSs X (st :: rest) (tS ρ D) :=
  pss_weak (pss_cons h (pss_some (P := fun ρ' => PSs X rest (tS ρ' D)) (t := fun ρ' => tS ρ' D) fun _ p => p)) fun D0 σ H q =>
    ⟨q.1, ⟨fun ρ' σ' H' a b c => ⟨ρ', a, b, q.2.mono c⟩, q.2.rt, q.2.bk, q.2.ct⟩⟩
theorem ts_one (h : PS X st (tS ρ D)) : PSs X [st] (tS ρ D) := pss_one h
theorem ts_set (i : Nat) {x : Str} {p : Pos} (he : PE X e (tT ρ T)) (h : D.nx (ρ.set i (some T))) (hN : X.N.Nodup) (hi : X.N[i]? = some x := by rfl) (hx : Loc X.env.scope x := by first | exact Or.inl rfl | exact Or.inr rfl)
    (hs : swapsWith e (some (.Name x p)) pos.line X.env = pure false := by rfl) (hf : X.fn x = true ∨ X.env.scope.names.lookup x = some .local := by first | exact .inl rfl | exact .inr rfl | assumption) : PS X (.Assign [.Name x p] e pos) (tS ρ D) :=
  ps_weak (ps_set hN hi hx he hs hf) fun D0 σ H q => ⟨q.1, fun v H1 e1 hv => q.2.nx _ _ H1 h ((q.1.mono e1).set hv i) e1⟩
/-- .. where the value is one of several -/
theorem ts_setEx (i : Nat) {ι : Type} {P : ι → Prop} {Ti : ι → Ty} {x : Str} {p : Pos} (he : PE X e (tT ρ (tyEx P Ti))) (h : ∀ z, P z → D.nx (ρ.set i (some (Ti z)))) (hN : X.N.Nodup) (hi : X.N[i]? = some x := by rfl) (hx : Loc X.env.scope x := by first | exact Or.inl rfl | exact Or.inr rfl)
    (hs : swapsWith e (some (.Name x p)) pos.line X.env = pure false := by rfl) (hf : X.fn x = true ∨ X.env.scope.names.lookup x = some .local := by first | exact .inl rfl | exact .inr rfl | assumption) : PS X (.Assign [.Name x p] e pos) (tS ρ D) :=
  ps_weak (ps_set hN hi hx he hs hf) fun D0 σ H q => ⟨q.1, fun v H1 e1 ⟨z, hz, hv⟩ => q.2.nx _ _ H1 (h z hz) ((q.1.mono e1).set hv i) e1⟩
theorem ts_expr (he : PE X e (tT ρ T)) (h : D.nx ρ) (hs : swapsWith e none pos.line X.env = pure false := by rfl) : PS X (.Expr e pos) (tS ρ D) :=
  ps_weak (ps_expr he hs) fun D0 σ H q => ⟨q.1, fun v H1 e1 _ => q.2.nx _ _ H1 h (q.1.mono e1) e1⟩
theorem ts_ret (he : PE X e (tT ρ T)) (l : T.le D.rt := by exact Ty.le.rfl) : PS X (.Return (some e) pos) (tS ρ D) :=
  ps_weak (ps_ret he) fun D0 σ H q => ⟨q.1, fun v H1 e1 hv => q.2.rt v H1 e1 (l H1 v hv)⟩
theorem ts_if {c : Expr} {k : Bool} (hc : PT X c (tTB ρ k)) (h1 : k = true → PSs X body (tS ρ D)) (h2 : k = false → PSs X orelse (tS ρ D)) : PS X (.If c body orelse pos) (tS ρ D) := by
  cases k with
  | true => exact ps_weak (ps_if hc (h1 rfl) pss_never) fun D0 σ H q => ⟨q.1, fun H1 e1 => iteT ⟨q.1.mono e1, q.2.mono e1⟩⟩
  | false => exact ps_weak (ps_if hc pss_never (h2 rfl)) fun D0 σ H q => ⟨q.1, fun H1 e1 => iteF ⟨q.1.mono e1, q.2.mono e1⟩⟩
theorem ts_break (h : D.bk ρ) : PS X (.Break pos) (tS ρ D) := ps_weak ps_break fun D0 σ H q => q.2.bk ρ σ H h q.1 (Gr.refl H)
theorem ts_cont (h : D.ct ρ) : PS X (.Continue pos) (tS ρ D) := ps_weak ps_continue fun D0 σ H q => q.2.ct ρ σ H h q.1 (Gr.refl H)
theorem ts_pass (h : D.nx ρ) : PS X (.Pass pos) (tS ρ D) := ps_weak ps_pass fun D0 σ H q => q.2.nx ρ σ H h q.1 (Gr.refl H)
/-- what stands behind a block may be forgotten -/
theorem ts_less {ρ' : Rho} {sts : List Stmt} (h : PSs X sts (tS ρ' D)) (l : ∀ H σ, EnvT H σ ρ → EnvT H σ ρ') : PSs X sts (tS ρ D) := pss_weak h fun D0 σ H q => ⟨l H σ q.1, q.2⟩
/-- a slot's type is one of several -/
theorem ts_open {ι : Type} {P : ι → Prop} {Ti : ι → Ty} {sts : List Stmt} (i : Nat) (hi : ρ[i]? = some (some (tyEx P Ti))) (h : ∀ z, P z → PSs X sts (tS (ρ.set i (some (Ti z))) D)) : PSs X sts (tS ρ D) :=
  pss_weak (pss_some (P := P) (t := fun z => tS (ρ.set i (some (Ti z))) D) fun z hz => h z hz) fun D0 σ H q => by
    obtain ⟨x, h1, z, hz, h2⟩ := q.1.get hi
    refine ⟨z, hz, ?_, q.2⟩
    have e : σ.set i (some x) = σ := by
      obtain ⟨hl, h3⟩ := List.getElem?_eq_some_iff.mp h1
      rw [← h3]
      exact List.set_getElem_self hl
    have g := EnvT.set h2 i q.1
    rw [e] at g
    exact g
/-- a, b = e1, e2 -/
theorem ts_par {i j : Nat} {x y : Str} {a b : Expr} {px py pt : Pos} {kt k2 pt2} {B : Ty} (ha : PA X [a, b] (tTA ρ [A, B])) (h : D.nx ((ρ.set i (some A)).set j (some B))) (hc : X.calm = true) (hN : X.N.Nodup) (hi : X.N[i]? = some x := by rfl) (hj : X.N[j]? = some y := by rfl) (hij : i ≠ j := by decide)
    (hx : X.env.scope.names.lookup x = some .local := by rfl) (hy : X.env.scope.names.lookup y = some .local := by rfl)
    (hw : swappedStores [.Tuple [.Name x px, .Name y py] kt pt] (.Tuple [a, b] k2 pt2) X.env = pure (some [x, y]) := by rfl)
    (hs : swapsWithSole [.Tuple [.Name x px, .Name y py] kt pt] (.Tuple [a, b] k2 pt2) pos.line X.env = pure false := by rfl) :
    PS X (.Assign [.Tuple [.Name x px, .Name y py] kt pt] (.Tuple [a, b] k2 pt2) pos) (tS ρ D) :=
  ps_weak (ps_par hc hN hi hj hij hx hy ha hw hs) fun D0 σ H q => ⟨q.1, fun vs H1 e1 hv => by
    match vs, hv with
    | [v, w], hv => exact ⟨v, w, rfl, q.2.nx _ _ H1 h (EnvT.set hv.2.1 j (EnvT.set hv.1 i (q.1.mono e1))) e1⟩⟩
theorem ts_par3 {i j l : Nat} {x y z : Str} {a b c : Expr} {px py pz pt : Pos} {kt k2 pt2} {B C : Ty} (ha : PA X [a, b, c] (tTA ρ [A, B, C])) (h : D.nx (((ρ.set i (some A)).set j (some B)).set l (some C))) (hc : X.calm = true) (hN : X.N.Nodup) (hi : X.N[i]? = some x := by rfl) (hj : X.N[j]? = some y := by rfl) (hl : X.N[l]? = some z := by rfl)
    (hij : i ≠ j := by decide) (hil : i ≠ l := by decide) (hjl : j ≠ l := by decide)
    (hx : X.env.scope.names.lookup x = some .local := by rfl) (hy : X.env.scope.names.lookup y = some .local := by rfl) (hz : X.env.scope.names.lookup z = some .local := by rfl)
    (hw : swappedStores [.Tuple [.Name x px, .Name y py, .Name z pz] kt pt] (.Tuple [a, b, c] k2 pt2) X.env = pure (some [x, y, z]) := by rfl)
    (hs : swapsWithSole [.Tuple [.Name x px, .Name y py, .Name z pz] kt pt] (.Tuple [a, b, c] k2 pt2) pos.line X.env = pure false := by rfl) :
    PS X (.Assign [.Tuple [.Name x px, .Name y py, .Name z pz] kt pt] (.Tuple [a, b, c] k2 pt2) pos) (tS ρ D) :=
  ps_weak (ps_par3 hc hN hi hj hl hij hil hjl hx hy hz ha hw hs) fun D0 σ H q => ⟨q.1, fun vs H1 e1 hv => by
    match vs, hv with
    | [u, v, w], hv => exact ⟨u, v, w, rfl, q.2.nx _ _ H1 h (EnvT.set hv.2.2.1 l (EnvT.set hv.2.1 j (EnvT.set hv.1 i (q.1.mono e1)))) e1⟩⟩
end

/-! ### targets -/
theorem wipe_comm (σ : L2.St) (i : Nat) (o : Option V) : ∀ vs : List Nat, i ∉ vs → L2.wipe (σ.set i o) vs = (L2.wipe σ vs).set i o
  | [], _ => rfl
  | v :: vs, h => by
    have h1 : i ∉ vs := fun q => h (List.mem_cons_of_mem _ q)
    have h2 : i ≠ v := fun q => h (by rw [q]; exact List.mem_cons_self)
    show (L2.wipe (σ.set i o) vs).set v none = ((L2.wipe σ vs).set v none).set i o
    rw [wipe_comm σ i o vs h1]
    exact List.set_comm _ _ h2
theorem wipe_in (σ : L2.St) (i : Nat) (o : Option V) : ∀ vs : List Nat, i ∈ vs → L2.wipe (σ.set i o) vs = L2.wipe σ vs
  | [], h => by cases h
  | v :: vs, h => by
    show (L2.wipe (σ.set i o) vs).set v none = (L2.wipe σ vs).set v none
    by_cases hm : i ∈ vs
    · rw [wipe_in σ i o vs hm]
    · have e : i = v := by
        rcases List.mem_cons.mp h with q | q
        · exact q
        · exact absurd q hm
      rw [wipe_comm σ i o vs hm, e, List.set_set]
theorem wipe_wipe (σ : L2.St) (us : List Nat) : ∀ vs : List Nat, (∀ v ∈ vs, v ∈ us) → L2.wipe (L2.wipe σ vs) us = L2.wipe σ us
  | [], _ => rfl
  | v :: vs, h => by
    show L2.wipe ((L2.wipe σ vs).set v none) us = L2.wipe σ us
    rw [wipe_in _ v none us (h v List.mem_cons_self), wipe_wipe σ us vs fun w hw => h w (List.mem_cons_of_mem _ hw)]
/-- a target takes a T: the slots' types behind it; vs: the slots that it may change -/
def gT (vs : List Nat) (ρ : Rho) (T : Ty) (ρ' : Rho) : TG := fun v σ H Q => EnvT H σ ρ ∧ T.p H v ∧ ∀ σ' H', Gr H H' → EnvT H' σ' ρ' → L2.wipe σ' vs = L2.wipe σ vs → Q σ' H'
def gTs (vs : List Nat) (ρ : Rho) (Ts : List Ty) (ρ' : Rho) : TGs := fun xs σ H Q => EnvT H σ ρ ∧ AllT H xs Ts ∧ ∀ σ' H', Gr H H' → EnvT H' σ' ρ' → L2.wipe σ' vs = L2.wipe σ vs → Q σ' H'
section
variable {X : Cx} {vs : List Nat} {ρ ρ1 ρ2 : Rho} {T A B : Ty} {pos : Pos}
theorem pg_weak {tg : Expr} {t t' : TG} (h : PG X tg t) (w : ∀ v σ H Q, t' v σ H Q → t v σ H Q) : PG X tg t' := ⟨fun pins s σ H v u Q I r q => h.run pins s σ H v u Q I r (w v σ H Q q)⟩
theorem pgs_weak {tg : List Expr} {t t' : TGs} (h : PGs X tg t) (w : ∀ v σ H Q, t' v σ H Q → t v σ H Q) : PGs X tg t' := ⟨fun pins s σ H v u Q I r q => h.run pins s σ H v u Q I r (w v σ H Q q)⟩
theorem tg_name (i : Nat) {x : Str} (hN : X.N.Nodup) (hv : i ∈ vs) (hi : X.N[i]? = some x := by rfl) (hx : Loc X.env.scope x := by first | exact Or.inl rfl | exact Or.inr rfl) (hf : X.fn x = true ∨ X.env.scope.names.lookup x = some .local := by first | exact .inl rfl | exact .inr rfl | assumption) :
    PG X (.Name x pos) (gT vs ρ T (ρ.set i (some T))) := pg_weak (pg_name hN hi hx hf) fun v σ H Q q => q.2.2 _ H (Gr.refl H) (q.1.set q.2.1 i) (wipe_in σ i _ vs hv)
theorem tgs_nil : PGs X [] (gTs vs ρ [] ρ) := pgs_weak pgs_nil fun v σ H Q q => by
  match v, q.2.1 with
  | [], _ => exact ⟨rfl, q.2.2 σ H (Gr.refl H) q.1 rfl⟩
theorem tgs_cons {e : Expr} {es : List Expr} {Ts : List Ty} (h1 : PG X e (gT vs ρ T ρ1)) (h2 : PGs X es (gTs vs ρ1 Ts ρ2)) (hs : (assignEach (e :: es) X.env).map (·.2) = assign e X.env :: (assignEach es X.env).map (·.2) := by rfl) : PGs X (e :: es) (gTs vs ρ (T :: Ts) ρ2) :=
  pgs_weak (pgs_cons h1 h2 hs) fun v σ H Q q => by
    match v, q.2.1 with
    | v :: r, hv => exact ⟨v, r, rfl, q.1, hv.1, fun σ1 H1 e1 g1 w1 => ⟨g1, AllT.mono e1 hv.2, fun σ2 H2 e2 g2 w2 => q.2.2 σ2 H2 (e1.trans e2) g2 (w2.trans w1)⟩⟩
/-- a tuple of these values -/
theorem tg_tup {es : List Expr} {k : Nat} {ds : List PyData} (hc : X.calm = true) (h : PGs X es (gTs vs ρ (ds.map (tyD X.K)) ρ1)) (hn : (assignEach es X.env).length = ds.length := by rfl) (hst : (assignEach es X.env).findIdx? (·.1) = none := by rfl) :
    PG X (.Tuple es k pos) (gT vs ρ (tyD X.K (.tuple ds)) ρ1) := pg_weak (pg_tup hc h hn hst) fun v σ H Q q => by
  obtain ⟨g, hv, w⟩ := q
  cases (show Dp X.K H v (.tuple ds) from hv) with
  | tup hs ha => exact ⟨_, _, rfl, hs.sq, DpAll.length ha, g, AllT.ofData ha, w⟩
theorem tg_pair {es : List Expr} {k : Nat} (hc : X.calm = true) (h : PGs X es (gTs vs ρ [A, B] ρ1)) (hn : (assignEach es X.env).length = 2 := by rfl) (hst : (assignEach es X.env).findIdx? (·.1) = none := by rfl) :
    PG X (.Tuple es k pos) (gT vs ρ (tyP X.K A B) ρ1) := pg_weak (pg_tup hc h hn hst) fun v σ H Q q => by
  obtain ⟨g, ⟨a, x, y, rfl, hs, hx, hy⟩, w⟩ := q
  exact ⟨_, _, rfl, hs, rfl, g, ⟨hx, hy, True.intro⟩, w⟩
theorem tg_trip {C : Ty} {es : List Expr} {k : Nat} (hc : X.calm = true) (h : PGs X es (gTs vs ρ [A, B, C] ρ1)) (hn : (assignEach es X.env).length = 3 := by rfl) (hst : (assignEach es X.env).findIdx? (·.1) = none := by rfl) :
    PG X (.Tuple es k pos) (gT vs ρ (tyP3 X.K A B C) ρ1) := pg_weak (pg_tup hc h hn hst) fun v σ H Q q => by
  obtain ⟨g, ⟨a, x, y, z, rfl, hs, hx, hy, hz⟩, w⟩ := q
  exact ⟨_, _, rfl, hs, rfl, g, ⟨hx, hy, hz, True.intro⟩, w⟩
/-- target = e -/
theorem ts_asg {tg e : Expr} {D : TEnds} (he : PE X e (tT ρ T)) (hg : PG X tg (gT vs ρ T ρ1)) (h : D.nx ρ1) (hs : swapsWithSole [tg] e pos.line X.env = pure false := by rfl) (hw : swappedStores [tg] e X.env = pure none := by rfl)
    (h1 : (assignEach [tg] X.env).map (·.2) = [assign tg X.env] := by rfl) : PS X (.Assign [tg] e pos) (tS ρ D) := ps_weak (ps_asg he hg hs hw h1) fun D0 σ H q =>
  ⟨q.1, fun v H1 e1 hv => ⟨q.1.mono e1, hv, fun σ' H' e2 g _ => q.2.nx ρ1 σ' H' h g (e1.trans e2)⟩⟩
end

/-! ### lists of one's own, hidden while other things are reckoned -/
def hide (Ds : List Addr) (H : Hp) : Hp := fun b => if b ∈ Ds then none else H b
def showH (Ds : List Addr) (H H' : Hp) : Hp := fun b => if b ∈ Ds then H b else H' b
def Own (Ds : List Addr) (H : Hp) : Prop := ∀ D ∈ Ds, (∃ xs, H D = some (.lst xs)) ∨ ∃ kvs, H D = some (.dT kvs)
theorem hide_in {Ds : List Addr} {H : Hp} {b : Addr} (h : b ∈ Ds) : hide Ds H b = none := if_pos h
theorem hide_out {Ds : List Addr} {H : Hp} {b : Addr} (h : b ∉ Ds) : hide Ds H b = H b := if_neg h
theorem show_in {Ds : List Addr} {H H' : Hp} {b : Addr} (h : b ∈ Ds) : showH Ds H H' b = H b := if_pos h
theorem show_out {Ds : List Addr} {H H' : Hp} {b : Addr} (h : b ∉ Ds) : showH Ds H H' b = H' b := if_neg h
theorem hide_same {Ds : List Addr} {H : Hp} : Same (hide Ds H) H := fun b o e => by
  by_cases h : b ∈ Ds
  · rw [hide_in h] at e
    cases e
  · rw [hide_out h] at e
    exact e
theorem hide_mono {Ds : List Addr} {H H' : Hp} (e : Same H H') : Same (hide Ds H) (hide Ds H') := fun b o q => by
  by_cases h : b ∈ Ds
  · rw [hide_in h] at q
    cases q
  · rw [hide_out h] at q ⊢
    exact e b o q
theorem hide_show {Ds : List Addr} {H H' : Hp} (n : ∀ D ∈ Ds, H' D = none) : hide Ds (showH Ds H H') = H' := by
  funext b
  by_cases h : b ∈ Ds
  · rw [hide_in h, n b h]
  · rw [hide_out h, show_out h]
theorem hide_nil {H : Hp} : hide [] H = H := by
  funext b
  exact hide_out (by simp)
theorem hide_upd {Ds : List Addr} {H : Hp} {b : Addr} {o : HO} (h : b ∈ Ds) : hide Ds (upd H b o) = hide Ds H := by
  funext c
  by_cases hc : c ∈ Ds
  · rw [hide_in hc, hide_in hc]
  · rw [hide_out hc, hide_out hc, upd_ne (fun e => hc (by rw [e]; exact h))]
section
variable {X : Cx} {pins : List (Addr × Obj)} {σ σ' : L2.St} {H H' : Hp} {s s' : Shared} {Ds : List Addr}
theorem pinsAt_mem {fp : List Addr} {h : Heap} {p : Addr × Obj} (m : p ∈ pinsAt fp h) : p.1 ∈ fp ∧ h.get? p.1 = some p.2 := by
  unfold pinsAt at m
  obtain ⟨b, hb, e⟩ := List.mem_filterMap.mp m
  cases q : h.get? b with
  | none => rw [q] at e; cases e
  | some o =>
    rw [q] at e
    have e2 : (b, o) = p := Option.some.inj e
    subst e2
    exact ⟨hb, q⟩
theorem Own.not {b : Addr} {u : Option HO} (own : Own Ds H) (h : H b = u) (n : ∀ xs, u ≠ some (.lst xs)) (n2 : ∀ kvs, u ≠ some (.dT kvs)) : b ∉ Ds := fun m => by
  rcases own b m with ⟨xs, e⟩ | ⟨xs, e⟩
  · exact n xs (h.symm.trans e)
  · exact n2 xs (h.symm.trans e)
theorem own_obj (I : Inv X pins σ H s) (own : Own Ds H) {D : Addr} (hD : D ∈ Ds) : ∃ o, s.heap.get? D = some o ∧ ∀ v, o.data ≠ .cell v := by
  rcases own D hD with ⟨xs, e⟩ | ⟨kvs, e⟩
  · obtain ⟨_, its, n, _, ho⟩ := (show ObjOk X.prog X.w H s.heap D (.lst xs) from I.hok D _ e)
    exact ⟨_, ho, fun v z => by cases z⟩
  · obtain ⟨_, _, ys, _, o, es, ep, ho, _, hd, _⟩ := (show ObjOk X.prog X.w H s.heap D (.dT kvs) from I.hok D _ e)
    exact ⟨o, ho, fun v z => by rw [hd] at z; cases z⟩
theorem own_some (own : Own Ds H) {D : Addr} (hD : D ∈ Ds) : ∃ o, H D = some o := by
  rcases own D hD with ⟨xs, e⟩ | ⟨kvs, e⟩
  · exact ⟨_, e⟩
  · exact ⟨_, e⟩
theorem inv_fsFree (I : Inv X pins σ H s) : ∀ b ∈ X.fs, H b = none := fun b hb => by
  obtain ⟨_, o, ho, _⟩ := I.ok.funs.mem hb
  exact I.base.free b o ho (I.ok.frf b hb) fun z => I.ok.exfs b z hb
theorem inv_hide (I : Inv X pins σ H s) (own : Own Ds H) : Inv X (pinsAt Ds s.heap ++ pins) σ (K14.hide Ds H) s := by
  refine ⟨I.ok, I.os, I.bare, ⟨I.base.keep, I.base.slot, fun b o e n hx => ?_, I.base.there, fun b xs e => ?_, fun b o u e => ?_, fun b ps e => ?_⟩, I.loc, I.cell, ?_, fun x c e => ?_, fun p hp => ?_, fun a u e => ?_, I.len⟩
  · by_cases h : b ∈ Ds
    · exact hide_in h
    · rw [hide_out h]
      exact I.base.free b o e n hx
  · have q := I.base.tups b xs e
    rw [hide_out (own.not q (fun _ z => by cases z) fun _ z => by cases z)]
    exact q
  · have q := I.base.frzs b o u e
    rw [hide_out (own.not q (fun _ z => by cases z) fun _ z => by cases z)]
    exact q
  · obtain ⟨more, q⟩ := I.base.tbls b ps e
    exact ⟨more, by rw [hide_out (own.not q (fun _ z => by cases z) fun _ z => by cases z)]; exact q⟩
  · rw [hide_out (own.not I.free (fun _ z => by cases z) fun _ z => by cases z)]
    exact I.free
  · rw [hide_out (own.not (I.freeC x c e) (fun _ z => by cases z) fun _ z => by cases z)]
    exact I.freeC x c e
  · have old : p ∈ X.pn ++ pins → s.heap.get? p.1 = some p.2 ∧ K14.hide Ds H p.1 = none ∧ p.1 ≠ X.env.locals ∧ p.1 ∉ X.fs ∧ ∀ v, p.2.data ≠ .cell v := fun hm => by
      obtain ⟨h1, h2, h3⟩ := I.pin p hm
      exact ⟨h1, by rw [hide_out (own.not h2 (fun _ z => by cases z) fun _ z => by cases z)]; exact h2, h3⟩
    rcases List.mem_append.mp hp with hm | hm
    · exact old (List.mem_append_left _ hm)
    · rcases List.mem_append.mp hm with hm | hm
      · obtain ⟨h1, h2⟩ := pinsAt_mem hm
        obtain ⟨u, q⟩ := own_some own h1
        obtain ⟨o, ho, nc⟩ := own_obj I own h1
        rw [h2] at ho
        refine ⟨h2, hide_in h1, fun z => ?_, fun z => ?_, fun v z => ?_⟩
        · have f := I.free
          rw [← z, q] at f
          cases f
        · have f := inv_fsFree I _ z
          rw [q] at f
          cases f
        · rw [Option.some.inj ho] at z
          exact nc v z
      · exact old (List.mem_append_right _ hm)
  · have h : a ∉ Ds := fun m => by rw [hide_in m] at e; cases e
    rw [hide_out h] at e
    refine (I.hok a u e).stay (fun _ _ _ q => q) (fun b q => ?_) fun b xs q => ?_
    · rw [hide_out (own.not q (fun _ z => by cases z) fun _ z => by cases z)]
      exact q
    · rw [hide_out (own.not q (fun _ z => by cases z) fun _ z => by cases z)]
      exact q
theorem inv_shown (I : Inv X pins σ H s) (own : Own Ds H) (J : Inv X (pinsAt Ds s.heap ++ pins) σ' H' s') (gr : Gr (K14.hide Ds H) H') : (∀ D ∈ Ds, H' D = none) ∧ Inv X pins σ' (showH Ds H H') s' := by
  have at_ : ∀ D ∈ Ds, ∃ o u, s.heap.get? D = some o ∧ s'.heap.get? D = some o ∧ H' D = none ∧ H D = some u := fun D hD => by
    obtain ⟨u, q⟩ := own_some own hD
    obtain ⟨o, ho, _⟩ := own_obj I own hD
    obtain ⟨h1, h2, _⟩ := J.pin (D, o) (List.mem_append_right _ (List.mem_append_left _ (mem_pinsAt hD ho)))
    exact ⟨o, u, ho, h1, h2, q⟩
  have none_ : ∀ D ∈ Ds, H' D = none := fun D hD => by
    obtain ⟨_, _, _, _, h, _⟩ := at_ D hD
    exact h
  have out : ∀ b u, H' b = some u → b ∉ Ds := fun b u e m => by
    rw [none_ b m] at e
    cases e
  refine ⟨none_, J.ok, J.os, J.bare, ⟨J.base.keep, J.base.slot, fun b o e n hx => ?_, J.base.there, fun b xs e => ?_, fun b o u e => ?_, fun b ps e => ?_⟩, J.loc, J.cell, ?_, fun x c e => ?_, fun p hp => ?_, fun a u e => ?_, J.len⟩
  · have q := I.base.free b o e n hx
    rw [show_out (own.not q (fun _ z => by cases z) fun _ z => by cases z)]
    exact J.base.free b o e n hx
  · have q := J.base.tups b xs e
    rw [show_out (out b _ q)]
    exact q
  · have q := J.base.frzs b o u e
    rw [show_out (out b _ q)]
    exact q
  · obtain ⟨more, q⟩ := J.base.tbls b ps e
    exact ⟨more, by rw [show_out (out b _ q)]; exact q⟩
  · rw [show_out (own.not I.free (fun _ z => by cases z) fun _ z => by cases z)]
    exact J.free
  · rw [show_out (own.not (I.freeC x c e) (fun _ z => by cases z) fun _ z => by cases z)]
    exact J.freeC x c e
  · have hp' : p ∈ X.pn ++ (pinsAt Ds s.heap ++ pins) := by
      rcases List.mem_append.mp hp with m | m
      · exact List.mem_append_left _ m
      · exact List.mem_append_right _ (List.mem_append_right _ m)
    obtain ⟨h1, h2, h3⟩ := J.pin p hp'
    obtain ⟨_, g2, _⟩ := I.pin p hp
    exact ⟨h1, by rw [show_out (own.not g2 (fun _ z => by cases z) fun _ z => by cases z)]; exact h2, h3⟩
  · by_cases h : a ∈ Ds
    · rw [show_in h] at e
      obtain ⟨o, u', e1, e2, _, e4⟩ := at_ a h
      rcases own a h with ⟨xs, e5⟩ | ⟨kvs, e5⟩
      · rw [e5] at e
        cases e
        obtain ⟨z, its, n, r, ho⟩ := (show ObjOk X.prog X.w H s.heap a (.lst xs) from I.hok a _ e5)
        rw [e1] at ho
        exact ⟨z, its, n, r, by rw [e2]; exact ho⟩
      · rw [e5] at e
        cases e
        obtain ⟨z, y, ys, r, ob, es, ep, ho, d⟩ := (show ObjOk X.prog X.w H s.heap a (.dT kvs) from I.hok a _ e5)
        rw [e1] at ho
        refine ⟨z, y, ys, Paired.mapP r fun p q w => ⟨w.1, ?_, w.2.2⟩, ob, es, ep, by rw [e2]; exact ho, d⟩
        have nD : q.2.1 ∉ Ds := own.not w.2.1 (fun _ z => by cases z) fun _ z => by cases z
        rw [show_out nD]
        exact gr.keep _ _ (by rw [hide_out nD]; exact w.2.1) True.intro
    · rw [show_out h] at e
      refine (J.hok a u e).stay (fun _ _ _ q => q) (fun b q => ?_) fun b xs q => ?_
      · rw [show_out (out b _ q)]
        exact q
      · rw [show_out (out b _ q)]
        exact q
/-- the heap behind, the hidden lists as they were -/
structure Beh (Ds : List Addr) (H H' : Hp) : Prop where
  gr : Gr (K14.hide Ds H) (K14.hide Ds H')
  own : ∀ D ∈ Ds, H' D = H D
def fT (ρ : Rho) (T : Ty) : TE := fun σ H Q => ∃ Ds, Own Ds H ∧ EnvT (K14.hide Ds H) σ ρ ∧ ∀ v H', Beh Ds H H' → T.p (K14.hide Ds H') v → Q v H'
def fTA (ρ : Rho) (Ts : List Ty) : TA := fun σ H Q => ∃ Ds, Own Ds H ∧ EnvT (K14.hide Ds H) σ ρ ∧ ∀ vs H', Beh Ds H H' → AllT (K14.hide Ds H') vs Ts → Q vs H'
def fTB (ρ : Rho) (b : Bool) : TT := fun σ H Q => ∃ Ds, Own Ds H ∧ EnvT (K14.hide Ds H) σ ρ ∧ ∀ H', Beh Ds H H' → Q b H'
def fG (vs : List Nat) (ρ : Rho) (T : Ty) (ρ' : Rho) : TG := fun v σ H Q => ∃ Ds, Own Ds H ∧ EnvT (K14.hide Ds H) σ ρ ∧ T.p (K14.hide Ds H) v ∧ ∀ σ' H', Beh Ds H H' → EnvT (K14.hide Ds H') σ' ρ' → L2.wipe σ' vs = L2.wipe σ vs → Q σ' H'
theorem beh_of {H1 : Hp} (n : ∀ D ∈ Ds, H1 D = none) (g : Gr (K14.hide Ds H) H1) : Beh Ds H (showH Ds H H1) := ⟨by rw [hide_show n]; exact g, fun D hD => show_in hD⟩
variable {e : Expr} {ρ ρ' : Rho} {T : Ty}
theorem pe_frame (h : PE X e (tT ρ T)) : PE X e (fT ρ T) := ⟨fun pins s σ H Q I ⟨Ds, own, hE, k⟩ => thn (h.run _ s σ _ (fun v H1 => Gr (K14.hide Ds H) H1 ∧ T.p H1 v) (inv_hide I own) ⟨hE, fun v H1 g p => ⟨g, p⟩⟩) fun u s' ⟨v, H1, J, r, g, p⟩ => by
  obtain ⟨n, J'⟩ := inv_shown I own J g
  exact ⟨v, _, J', r, k v _ (beh_of n g) (by rw [hide_show n]; exact p)⟩⟩
theorem pa_frame {es : List Expr} {Ts : List Ty} (h : PA X es (tTA ρ Ts)) : PA X es (fTA ρ Ts) := ⟨fun pos pins s σ H Q I ⟨Ds, own, hE, k⟩ => thn (h.run pos _ s σ _ (fun v H1 => Gr (K14.hide Ds H) H1 ∧ AllT H1 v Ts) (inv_hide I own) ⟨hE, fun v H1 g p => ⟨g, p⟩⟩) fun u s' ⟨v, H1, J, r, g, p⟩ => by
  obtain ⟨n, J'⟩ := inv_shown I own J g
  exact ⟨v, _, J', r, k v _ (beh_of n g) (by rw [hide_show n]; exact p)⟩⟩
theorem pt_frame {b : Bool} (h : PT X e (tTB ρ b)) : PT X e (fTB ρ b) := ⟨fun pins s σ H Q I ⟨Ds, own, hE, k⟩ => thn (h.run _ s σ _ (fun c H1 => Gr (K14.hide Ds H) H1 ∧ c = b) (inv_hide I own) ⟨hE, fun H1 g => ⟨g, rfl⟩⟩) fun u s' ⟨H1, J, g, p⟩ => by
  obtain ⟨n, J'⟩ := inv_shown I own J g
  exact ⟨_, J', p ▸ k _ (beh_of n g)⟩⟩
theorem pts_frame {ifs : List Expr} {b : Bool} (h : PTs X ifs (tTB ρ b)) : PTs X ifs (fTB ρ b) := ⟨fun pins s σ H Q I ⟨Ds, own, hE, k⟩ => thn (h.run _ s σ _ (fun c H1 => Gr (K14.hide Ds H) H1 ∧ c = b) (inv_hide I own) ⟨hE, fun H1 g => ⟨g, rfl⟩⟩) fun u s' ⟨H1, J, g, p⟩ => by
  obtain ⟨n, J'⟩ := inv_shown I own J g
  exact ⟨_, J', p ▸ k _ (beh_of n g)⟩⟩
theorem pg_frame {vs : List Nat} (h : PG X e (gT vs ρ T ρ')) : PG X e (fG vs ρ T ρ') := ⟨fun pins s σ H v u Q I r ⟨Ds, own, hE, hv, k⟩ => thn (h.run _ s σ _ v u (fun σ1 H1 => Gr (K14.hide Ds H) H1 ∧ EnvT H1 σ1 ρ' ∧ L2.wipe σ1 vs = L2.wipe σ vs) (inv_hide I own) r ⟨hE, hv, fun σ1 H1 g p w => ⟨g, p, w⟩⟩) fun u s' ⟨σ1, H1, J, g, p, w⟩ => by
  obtain ⟨n, J'⟩ := inv_shown I own J g
  exact ⟨_, _, J', k _ _ (beh_of n g) (by rw [hide_show n]; exact p) w⟩⟩
end

/-! ### what is walked -/
structure WalkT (J : It) (n : Nat) (item : Nat → Ty) (G : Hp → Prop) : Prop where
  st : ∀ H H', Gr H H' → G H → G H'
  goes : ∀ i H, i < n → G H → J.go i H
  stops : ∀ H, G H → J.stop n H
  yields : ∀ Ds i H x H', i < n → (∀ D ∈ Ds, H D ≠ none) → G (hide Ds H) → J.yld i H x H' → Same H H' ∧ (item i).p (hide Ds H') x
def tI (ρ : Rho) (n : Nat) (item : Nat → Ty) : TI := fun σ H R => EnvT H σ ρ ∧ ∀ J H' G, Gr H H' → WalkT J n item G → G H' → R J H'
/-- the i-th datum -/
abbrev itD (K : PySem.W.Frag) (ds : List PyData) : Nat → Ty := fun i => tyD K (ds.getD i .none)
section
variable {X : Cx} {tg e : Expr} {ρ : Rho} {T : Ty} {pos p : Pos} {n : Nat} {item : Nat → Ty}
theorem pi_weak {t t' : TI} (h : PI X tg e t) (w : ∀ σ H R, t' σ H R → t σ H R) : PI X tg e t' := ⟨fun pins s σ H R I q => h.run pins s σ H R I (w σ H R q)⟩
theorem DpAll.at {K : PySem.W.Frag} {H : Hp} {vs : List V} {ds : List PyData} {i : Nat} {x : V} (h : DpAll K H vs ds) (e : vs[i]? = some x) : Dp K H x (ds.getD i .none) := by
  have hl := DpAll.length h
  have hi : i < ds.length := by
    obtain ⟨q, _⟩ := List.getElem?_eq_some_iff.mp e
    omega
  obtain ⟨v, e1, e2⟩ := DpAll.get (i := i) h (List.getElem?_eq_getElem hi)
  rw [e] at e1
  cases e1
  rw [List.getD_eq_getElem?_getD, List.getElem?_eq_getElem hi]
  exact e2
theorem ti_list {ds : List PyData} (h : PE X e (tT ρ (tyD X.K (.list ds)))) : PI X tg e (tI ρ ds.length (itD X.K ds)) := pi_weak (pi_list h) fun σ H R q => ⟨q.1, fun v H1 e1 hv => by
  cases (show Dp X.K H1 v (.list ds) from hv) with
  | @lst a xs _ hs ha =>
    refine ⟨a, rfl, ⟨_, .of hs⟩, q.2 _ H1 (fun H => SqL X.K H a xs ∧ DpAll X.K H xs ds) e1 ⟨fun H H' g z => ⟨g.l z.1, Gr.dpAll g _ _ z.2⟩, fun i H hi z => ?_, fun H z => ⟨xs, z.1, Nat.le_of_eq (DpAll.length z.2)⟩, fun Ds i H x H' hi _ z y => ?_⟩ ⟨.of hs, ha⟩⟩
    · have hl : i < xs.length := by rw [DpAll.length z.2]; exact hi
      exact ⟨xs, xs[i], z.1, List.getElem?_eq_getElem hl⟩
    · obtain ⟨rfl, y⟩ := y
      exact ⟨Same.refl _, DpAll.at z.2 (y xs ((Gr.same hide_same).l z.1))⟩⟩
theorem ti_tup {ds : List PyData} (h : PE X e (tT ρ (tyD X.K (.tuple ds)))) : PI X tg e (tI ρ ds.length (itD X.K ds)) := pi_weak (pi_tup h) fun σ H R q => ⟨q.1, fun v H1 e1 hv => by
  cases (show Dp X.K H1 v (.tuple ds) from hv) with
  | @tup a xs _ hs ha =>
    refine ⟨a, rfl, ⟨_, hs.sq⟩, q.2 _ H1 (fun H => SqT X.K H a xs ∧ DpAll X.K H xs ds) e1 ⟨fun H H' g z => ⟨g.t z.1, Gr.dpAll g _ _ z.2⟩, fun i H hi z => ?_, fun H z => ⟨xs, z.1, Nat.le_of_eq (DpAll.length z.2)⟩, fun Ds i H x H' hi _ z y => ?_⟩ ⟨hs.sq, ha⟩⟩
    · have hl : i < xs.length := by rw [DpAll.length z.2]; exact hi
      exact ⟨xs, xs[i], z.1, List.getElem?_eq_getElem hl⟩
    · obtain ⟨rfl, y⟩ := y
      exact ⟨Same.refl _, DpAll.at z.2 (y xs ((Gr.same hide_same).t z.1))⟩⟩
theorem ti_range {a : Expr} {m : Int} (hm : X.mg "range" = none) (ha : PE X a (tT ρ (tyD X.K (.int m)))) (hb : -1000000 ≤ m ∧ m ≤ 1000000) (hg : Gl X "range" := by rfl) (hs : starEach [a] X.env = [(false, eval a X.env)] := by rfl) :
    PI X tg (.Call (.Name "range" p) [a] [] pos) (tI ρ m.toNat (fun i => tyD X.K (.int (i : Nat)))) := pi_weak (pi_range1 hg hm (ta_cons (Ts := []) ha ta_nil (by rw [hs]; rfl)) hs) fun σ H R q => ⟨q.1, fun vs H1 e1 hv => by
  match vs, hv with
  | [v], hv =>
    cases (show Dp X.K H1 v (.int m) from hv.1)
    refine ⟨m, rfl, by omega, by omega, q.2 _ H1 (fun _ => True) e1 ⟨fun _ _ _ _ => True.intro, fun i H hi _ => hi, fun H _ => Nat.le_refl _, fun Ds i H x H' hi _ _ y => ?_⟩ True.intro⟩
    obtain ⟨rfl, rfl⟩ := y
    exact ⟨Same.refl _, by
      show Dp X.K _ (.int (0 + (i : Int))) (.int (i : Int))
      rw [Int.zero_add]
      exact .int _⟩⟩
theorem ti_str {z : Str} (h : PE X e (tT ρ (tyD X.K (.str z)))) : PI X tg e (tI ρ z.cps.size (fun i => tyD X.K (.str ⟨#[z.cps.getD i 0]⟩))) := pi_weak (pi_str h) fun σ H R q => ⟨q.1, fun v H1 e1 hv => by
  cases (show Dp X.K H1 v (.str z) from hv)
  refine ⟨z, rfl, q.2 _ H1 (fun _ => True) e1 ⟨fun _ _ _ _ => True.intro, fun i H hi _ => hi, fun H _ => Nat.le_refl _, fun Ds i H x H' hi _ _ y => ?_⟩ True.intro⟩
  obtain ⟨rfl, c, hc, rfl⟩ := y
  refine ⟨Same.refl _, ?_⟩
  have ec : z.cps.getD i 0 = c := by
    simp [Array.getD_eq_getD_getElem?, hc]
  show Dp X.K _ (.str ⟨#[c]⟩) (.str ⟨#[z.cps.getD i 0]⟩)
  rw [ec]
  exact .str _⟩

/-! ### for -/
theorem ts_for {body : List Stmt} {D : TEnds} {vs : List Nat} (J : Nat → Rho → Prop) (nxt : Nat → Rho → Rho) (hp : PassesOwn (model X.prog X.w) X.A X.env X.xe) (hc : X.calm = true) (hi : PI X tg e (tI ρ n item)) (h0 : J 0 ρ) (hd : ∀ ρ', J n ρ' → D.nx ρ')
    (hg : ∀ i ρ', i < n → J i ρ' → PG X tg (gT vs ρ' (item i) (nxt i ρ')))
    (hb : ∀ i ρ', i < n → J i ρ' → PSs X body (tS (nxt i ρ') { D with nx := J (i + 1), ct := J (i + 1), bk := D.nx }))
    (hs : ∀ x, foldedSetIterable e X.env x = pure x := by intro _; rfl) : PS X (.For tg e body [] pos) (tS ρ D) := by
  have g1 : PG X tg (fun v σ H Q => ∃ q : Nat × Rho, (q.1 < n ∧ J q.1 q.2) ∧ gT vs q.2 (item q.1) (nxt q.1 q.2) v σ H Q) := ⟨fun pins s σ H v u Q I r ⟨q, h1, h2⟩ => (hg q.1 q.2 h1.1 h1.2).run pins s σ H v u Q I r h2⟩
  have b1 : PSs X body (fun D0 σ H => ∃ q : Nat × Rho, (q.1 < n ∧ J q.1 q.2) ∧ tS (nxt q.1 q.2) { D with nx := J (q.1 + 1), ct := J (q.1 + 1), bk := D.nx } D0 σ H) := pss_some fun q h => hb q.1 q.2 h.1 h.2
  refine ps_weak (ps_for hp hc hi g1 b1 hs) fun D0 σ H q => ⟨q.1, fun It H1 G e1 w g => ?_⟩
  refine ⟨fun i m σ' H' => m = n - i ∧ i ≤ n ∧ G H' ∧ Gr H1 H' ∧ ∃ ρ', J i ρ' ∧ EnvT H' σ' ρ', ⟨n, by simp, Nat.zero_le _, g, Gr.refl _, ρ, h0, q.1.mono e1⟩, ?_⟩
  rintro i m σ' H' ⟨rfl, hi', gH, eH, ρ', hJ, hE⟩
  by_cases hlt : i < n
  · refine .inr ⟨w.goes i H' hlt gH, fun σ2 H2 => G H2 ∧ Gr H1 H2 ∧ ∃ ρ2, J (i + 1) ρ2 ∧ EnvT H2 σ2 ρ2, fun σ2 H2 p => ⟨n - (i + 1), by omega, rfl, hlt, p⟩, fun x H2 y => ?_⟩
    obtain ⟨e20, hx⟩ := w.yields [] i H' x H2 hlt (fun _ h => by cases h) (by rw [hide_nil]; exact gH) y
    rw [hide_nil] at hx
    have e2 : Gr H' H2 := .same e20
    refine ⟨(i, ρ'), ⟨hlt, hJ⟩, hE.mono e2, hx, fun σ3 H3 e3 hE3 _ => ⟨(i, ρ'), ⟨hlt, hJ⟩, hE3, ?_⟩⟩
    have e13 : Gr H1 H3 := (eH.trans e2).trans e3
    refine ⟨fun ρ4 σ4 H4 a b c => ⟨w.st _ _ ((e2.trans e3).trans c) gH, e13.trans c, ρ4, a, b⟩, fun v H4 c a => q.2.rt v H4 ((e1.trans e13).trans c) a, fun ρ4 σ4 H4 a b c => q.2.nx ρ4 σ4 H4 a b ((e1.trans e13).trans c), fun ρ4 σ4 H4 a b c => ⟨w.st _ _ ((e2.trans e3).trans c) gH, e13.trans c, ρ4, a, b⟩⟩
  · have e : i = n := by omega
    subst e
    exact .inl ⟨w.stops H' gH, q.2.nx ρ' σ' H' (hd ρ' hJ) hE (e1.trans eH)⟩
end

/-! ### comprehensions -/
/-- a list of values of these types -/
def tyL (Ts : List Ty) : Ty := ⟨fun H v => ∃ a xs, v = .ref a ∧ H a = some (.lst xs) ∧ AllT H xs Ts, fun e ⟨a, xs, h1, h2, h3⟩ => ⟨a, xs, h1, e.keep a _ h2 True.intro, AllT.mono e h3⟩⟩
theorem tyL_data {K : PySem.W.Frag} {ds : List PyData} : (tyL (ds.map (tyD K))).le (tyTL K ds) := fun H v ⟨a, xs, h1, h2, h3⟩ => ⟨a, xs, h1, h2, AllT.data h3⟩
/-- the turns that give -/
def took {α : Type} (n : Nat) (p : Nat → Bool) (el : Nat → α) : List α := ((List.range n).filter p).map el
theorem took_succ {α : Type} (n : Nat) (p : Nat → Bool) (el : Nat → α) : took (n + 1) p el = if p n = true then took n p el ++ [el n] else took n p el := by
  unfold took
  rw [List.range_succ, List.filter_append, List.map_append, List.filter_cons]
  by_cases h : p n = true
  · rw [if_pos h, if_pos h]
    rfl
  · rw [if_neg h, if_neg h]
    simp
theorem took_len {α : Type} (n : Nat) (p : Nat → Bool) (el : Nat → α) : (took n p el).length ≤ n := by
  unfold took
  rw [List.length_map]
  have h := List.length_filter_le p (List.range n)
  rw [List.length_range] at h
  exact h
/-- each item gives: the map -/
theorem took_map {α β : Type} (f : α → β) (d : α) : ∀ (xs : List α) (p : Nat → Bool) (el : Nat → β), (∀ i, i < xs.length → p i = true) → (∀ i, i < xs.length → el i = f (xs.getD i d)) → took xs.length p el = xs.map f := fun xs p el hp he => by
  unfold took
  have h1 : (List.range xs.length).filter p = List.range xs.length := List.filter_eq_self.mpr fun i hi => hp i (List.mem_range.mp hi)
  rw [h1]
  apply List.ext_getElem
  · simp
  · intro i h1 h2
    have hi : i < xs.length := by simpa using h1
    simp only [List.getElem_map, List.getElem_range]
    rw [he i hi, List.getD_eq_getElem?_getD, List.getElem?_eq_getElem hi]
    rfl
/-- some items give: filter, then map -/
theorem took_filter {α β : Type} (q : α → Bool) (f : α → β) (d : α) (xs : List α) (p : Nat → Bool) (el : Nat → β) (hp : ∀ i, i < xs.length → p i = q (xs.getD i d)) (he : ∀ i, i < xs.length → el i = f (xs.getD i d)) : took xs.length p el = (xs.filter q).map f := by
  have key : ∀ n, n ≤ xs.length → took n p el = ((xs.take n).filter q).map f := by
    intro n
    induction n with
    | zero => intro _; rfl
    | succ n ih =>
      intro hn
      have hl : n < xs.length := hn
      have ex : xs.getD n d = xs[n] := by rw [List.getD_eq_getElem?_getD, List.getElem?_eq_getElem hl]; rfl
      rw [took_succ, ih (by omega), hp n hl, he n hl, ex, List.take_succ, List.getElem?_eq_getElem hl, List.filter_append, List.map_append]
      by_cases h : q xs[n] = true
      · rw [if_pos h]
        simp [List.filter_cons, h]
      · rw [if_neg h]
        simp [List.filter_cons, h]
  rw [key xs.length (Nat.le_refl _), List.take_length]
theorem took_range {β : Type} (n : Nat) (p : Nat → Bool) (el : Nat → β) (hp : ∀ i, i < n → p i = true) : took n p el = (List.range n).map el := by
  unfold took
  rw [List.filter_eq_self.mpr fun i hi => hp i (List.mem_range.mp hi)]
section
variable {X : Cx} {tg e elt : Expr} {ρ : Rho} {pos : Pos} {n : Nat} {item : Nat → Ty}
def lcG (ρ : Rho) (vs : List Nat) (n : Nat) (item : Nat → Ty) (nxt : Nat → Rho) : TG := fun v σ H Q => ∃ i, i < n ∧ fG vs (wipeR ρ vs) (item i) (nxt i) v σ H Q
def lcT (n : Nat) (p : Nat → Bool) (nxt : Nat → Rho) : TT := fun σ H Q => ∃ i, i < n ∧ fTB (nxt i) (p i) σ H Q
def lcE (n : Nat) (p : Nat → Bool) (el : Nat → Ty) (nxt : Nat → Rho) : TE := fun σ H Q => ∃ i, (i < n ∧ p i = true) ∧ fT (nxt i) (el i) σ H Q
theorem lc_read {vs : List Nat} {p : Nat → Bool} {el : Nat → Ty} {nxt : Nat → Rho} (hn : n ≤ 1000000) (σ : L2.St) (H : Hp) (Q : VK) (q : tT ρ (tyL (took n p el)) σ H Q) : tLc (tI ρ n item) (lcG ρ vs n item nxt) (lcT n p nxt) (lcE n p el nxt) vs σ H Q := by
  refine ⟨q.1, fun J H1 G e1 w g D nD => ?_⟩

  have hd0 : ∀ o, hide [D] (upd H1 D o) = H1 := fun o => by
    rw [hide_upd (List.mem_singleton.mpr rfl)]
    funext b
    by_cases hb : b ∈ [D]
    · rw [hide_in hb, List.mem_singleton.mp hb, nD]
    · rw [hide_out hb]
  have back : ∀ (H' : Hp) (acc : List V), H' D = some (.lst acc) → Gr (hide [D] H') H' := fun H' acc _ => .same hide_same
  refine ⟨fun i m H' => m = n - i ∧ i ≤ n ∧ G (hide [D] H') ∧ Gr H1 (hide [D] H') ∧ ∃ acc, H' D = some (.lst acc) ∧ AllT (hide [D] H') acc (took i p el), ⟨n, by simp, Nat.zero_le _, by rw [hd0]; exact g, by rw [hd0]; exact Gr.refl _, [], upd_same, True.intro⟩, ?_⟩
  rintro i m H' ⟨rfl, hi', gH, eH, acc, hD, hA⟩
  have gH' : G H' := w.st _ _ (back H' acc hD) gH
  have ownH : ∀ H2, H2 D = some (.lst acc) → Own [D] H2 := fun H2 h b hb => .inl ⟨acc, by rw [List.mem_singleton.mp hb]; exact h⟩
  have mD : D ∈ [D] := List.mem_singleton.mpr rfl
  by_cases hlt : i < n
  · refine .inr ⟨w.goes i H' hlt gH', fun H2 => G (hide [D] H2) ∧ Gr H1 (hide [D] H2) ∧ ∃ acc, H2 D = some (.lst acc) ∧ AllT (hide [D] H2) acc (took (i + 1) p el), fun H2 z => ⟨n - (i + 1), by omega, rfl, hlt, z⟩, fun x H2 y => ?_⟩
    obtain ⟨e20, hx⟩ := w.yields [D] i H' x H2 hlt (fun b hb => by rw [List.mem_singleton.mp hb, hD]; exact fun z => by cases z) gH y
    have e2 : Gr (hide [D] H') (hide [D] H2) := .same (hide_mono e20)
    have hE : EnvT (hide [D] H2) (L2.wipe σ vs) (wipeR ρ vs) := (q.1.mono ((e1.trans eH).trans e2)).wipe _
    refine ⟨i, hlt, [D], ownH H2 (e20 D _ hD), hE, hx, fun σ3 H3 b3 hE3 hw => ⟨hw.trans (wipe_wipe σ _ _ fun _ z => z), i, hlt, [D], ownH H3 ((b3.own D mD).trans (e20 D _ hD)), hE3, fun H4 b4 => ?_⟩⟩
    have h4D : H4 D = some (.lst acc) := (b4.own D mD).trans ((b3.own D mD).trans (e20 D _ hD))
    have e24 : Gr (hide [D] H') (hide [D] H4) := (e2.trans b3.gr).trans b4.gr
    cases hpi : p i with
    | true =>
      refine iteT ⟨i, ⟨hlt, hpi⟩, [D], ownH H4 h4D, hE3.mono b4.gr, fun v H5 b5 hv => ?_⟩
      have h5D : H5 D = some (.lst acc) := (b5.own D mD).trans h4D
      have e25 : Gr (hide [D] H') (hide [D] H5) := e24.trans b5.gr
      have hlen : acc.length ≤ n := by
        rw [hA.length]
        exact Nat.le_trans (took_len i p el) hi'
      refine ⟨acc, h5D, by rw [sizeLine_eq]; omega, ?_⟩
      show G (hide [D] (upd H5 D (HO.lst (acc ++ [v])))) ∧ Gr H1 (hide [D] (upd H5 D (HO.lst (acc ++ [v])))) ∧ ∃ acc', upd H5 D (HO.lst (acc ++ [v])) D = some (HO.lst acc') ∧ AllT (hide [D] (upd H5 D (HO.lst (acc ++ [v])))) acc' (took (i + 1) p el)
      rw [hide_upd mD]
      refine ⟨w.st _ _ e25 gH, eH.trans e25, acc ++ [v], upd_same, ?_⟩
      rw [took_succ, if_pos hpi]
      exact (hA.mono e25).app ⟨hv, True.intro⟩
    | false =>
      refine iteF ⟨w.st _ _ e24 gH, eH.trans e24, acc, h4D, ?_⟩
      rw [took_succ, if_neg (by rw [hpi]; exact Bool.false_ne_true)]
      exact hA.mono e24
  · have e : i = n := by omega
    subst e
    exact .inl ⟨w.stops H' gH', q.2 _ H' ((e1.trans eH).trans (back H' acc hD)) ⟨D, acc, rfl, hD, hA.mono (back H' acc hD)⟩⟩

section
variable {ifs : List Expr} {scope : Scope}
structure LcOk (X : Cx) (tg elt : Expr) (ifs : List Expr) (scope : Scope) (ρ : Rho) (vs : List Nat) (n : Nat) (item : Nat → Ty) (p : Nat → Bool) (el : Nat → Ty) (nxt : Nat → Rho) : Prop where
  hg : ∀ i, i < n → ∀ (s : Shared) (H : Hp) (C : Addr) (cl : List (Str × Addr)) (fp : List Addr), PG (X.blk s H scope (compEnvC scope cl C X.env) fp) tg (gT vs (wipeR ρ vs) (item i) (nxt i))
  ht : ∀ i, i < n → ∀ (s : Shared) (H : Hp) (C : Addr) (cl : List (Str × Addr)) (fp : List Addr), PTs (X.blk s H scope (compEnvC scope cl C X.env) fp) ifs (tTB (nxt i) (p i))
  he : ∀ i, i < n → p i = true → ∀ (s : Shared) (H : Hp) (C : Addr) (cl : List (Str × Addr)) (fp : List Addr), PE (X.blk s H scope (compEnvC scope cl C X.env) fp) elt (tT (nxt i) (el i))
variable {vs : List Nat} {p : Nat → Bool} {el : Nat → Ty} {nxt : Nat → Rho}
theorem LcOk.tgt (L : LcOk X tg elt ifs scope ρ vs n item p el nxt) (s : Shared) (H : Hp) (C : Addr) (cl : List (Str × Addr)) (fp : List Addr) : PG (X.blk s H scope (compEnvC scope cl C X.env) fp) tg (lcG ρ vs n item nxt) :=
  ⟨fun pins s' σ H v u Q I r ⟨i, h1, h2⟩ => (pg_frame (L.hg i h1 s _ C cl fp)).run pins s' σ H v u Q I r h2⟩
theorem LcOk.tst (L : LcOk X tg elt ifs scope ρ vs n item p el nxt) (s : Shared) (H : Hp) (C : Addr) (cl : List (Str × Addr)) (fp : List Addr) : PTs (X.blk s H scope (compEnvC scope cl C X.env) fp) ifs (lcT n p nxt) :=
  ⟨fun pins s' σ H Q I ⟨i, h1, h2⟩ => (pts_frame (L.ht i h1 s _ C cl fp)).run pins s' σ H Q I h2⟩
theorem LcOk.elt_ (L : LcOk X tg elt ifs scope ρ vs n item p el nxt) (s : Shared) (H : Hp) (C : Addr) (cl : List (Str × Addr)) (fp : List Addr) : PE (X.blk s H scope (compEnvC scope cl C X.env) fp) elt (lcE n p el nxt) :=
  ⟨fun pins s' σ H Q I ⟨i, h1, h2⟩ => (pe_frame (L.he i h1.1 h1.2 s _ C cl fp)).run pins s' σ H Q I h2⟩
/-- [elt for tg in e if ..] -/
theorem te_lc (own : List (Str × Nat)) (hc : X.calm = true) (hN : X.N.Nodup) (hi : PI X tg e (tI ρ n item)) (hn : n ≤ 1000000) (ok : BlkOk X.N X.env.scope scope own) (L : LcOk X tg elt ifs scope ρ (own.map (·.2)) n item p el nxt)
    (hs : ∀ x, foldedSetIterable e X.env x = pure x := by intro _; rfl) : PE X (.ListComp elt [⟨tg, e, ifs, 0⟩] scope pos) (tT ρ (tyL (took n p el))) :=
  pe_weak (pe_lc hc hN hi ok L.tgt L.tst L.elt_ hs) fun σ H Q q => lc_read hn σ H Q q
/-- y = [elt for tg in e if ..], y a local -/
theorem ts_setLc {D : TEnds} (own : List (Str × Nat)) {j : Nat} {y : Str} {py spos : Pos} (hc : X.calm = true) (hN : X.N.Nodup) (hi : PI X tg e (tI ρ n item)) (hn : n ≤ 1000000) (ok : BlkOk X.N X.env.scope scope own) (L : LcOk X tg elt ifs scope ρ (own.map (·.2)) n item p el nxt)
    (hnx : D.nx (ρ.set j (some (tyL (took n p el))))) (hsw : swapsWith (.ListComp elt [⟨tg, e, ifs, 0⟩] scope pos) (some (.Name y py)) spos.line X.env = pure true) (hy : X.N[j]? = some y := by rfl) (hyl : X.env.scope.names.lookup y = some .local := by rfl)
    (hs : ∀ x, foldedSetIterable e X.env x = pure x := by intro _; rfl) : PS X (.Assign [.Name y py] (.ListComp elt [⟨tg, e, ifs, 0⟩] scope pos) spos) (tS ρ D) :=
  ps_weak (ps_setLc hc hN hy hyl hsw hi ok L.tgt L.tst L.elt_ hs) fun D0 σ H q => lc_read hn σ H _ ⟨q.1, fun v H' e' hv => q.2.nx _ _ H' hnx ((q.1.mono e').set hv j) e'⟩
end
end
end K14
/-! KC: defs by types; operators, comparisons, built-ins upon data. -/
namespace K14
open PySem PySem.Spec PyProof.Rows L2

/-! ### defs -/
section
variable {P : Program} {w : World} {K : PySem.W.Frag} {mg : Str → Option Value} {base : Heap} {x qual : Str} {params : Arguments} {body : List Stmt} {scope : Scope} {dvs : List V} {kws : List (Str × V)} {f : Addr} {fd : FuncData}
theorem meets_start {D : TEnds} {H : Hp} {Q : VK} (R : Ty) (h1 : D.rt = R) (h2 : ∀ ρ, D.nx ρ → ∀ H, R.p H .non) (h3 : D.bk = fun _ => False) (h4 : D.ct = fun _ => False) (k : ∀ v H', Gr H H' → R.p H' v → Q v H') : Meets D { nx := fun _ H' => Q .non H', rt := Q } H := by
  refine ⟨fun ρ' σ' H' a b c => k _ _ c (h2 ρ' a H'), fun v H' c a => k v H' c (by rw [← h1]; exact a), fun ρ' σ' H' a b c => ?_, fun ρ' σ' H' a b c => ?_⟩
  · rw [h3] at a
    exact a.elim
  · rw [h4] at a
    exact a.elim
/-- a def that lets nothing out -/
theorem fn_T {ι : Type} {Ai : ι → List Ty} {Ri : ι → Ty} {N ps : List Str} {k : Nat} (F : FunD K x qual params body scope dvs kws f fd) (S : FnScope N ps scope) (hA : ∀ i, (Ai i).length = ps.length)
    (hb : ∀ (i : ι) (cdv : Value) (A : Around) (outer : List Env) (s : Shared) (H : Hp) (E : XK), Room k (A.deeper (envOfC qual scope s.heap.objs.size f cdv)) →
      PSs (cxOf CX0 P w K mg base N qual scope f cdv A outer s H E).nox body (tS (startR N.length (Ai i)) { nx := fun _ => ∀ H, (Ri i).p H .non, rt := Ri i })) : FnOk P w K mg base CX0 (k + 1) f fd ps (spT Ai Ri) := by
  refine F.ok S (fun vs H Q E ⟨i, hv, _⟩ => by rw [hv.length, hA]) fun cdv A outer s H vs Q E hr ⟨i, hv, q⟩ => ⟨_, PSs.nox (hb i cdv A outer s H E hr), envT_start hv, ?_⟩
  exact meets_start (Ri i) rfl (fun _ h => h) rfl rfl q
end

/-! ### ints -/
section
variable {X : Cx} {a b e : Expr} {pos : Pos} {ρ : Rho} {T A B : Ty}
abbrev dI (X : Cx) (i : Int) : Ty := tyD X.K (.int i)
abbrev dB (X : Cx) (b : Bool) : Ty := tyD X.K (.bool b)
abbrev dS (X : Cx) (z : Str) : Ty := tyD X.K (.str z)
theorem Dp.int_ {K : PySem.W.Frag} {H : Hp} {v : V} {i : Int} (h : Dp K H v (.int i)) : v = .int i := by cases h; rfl
theorem Dp.str_ {K : PySem.W.Frag} {H : Hp} {v : V} {i : Str} (h : Dp K H v (.str i)) : v = .str i := by cases h; rfl
theorem Dp.bl_ {K : PySem.W.Frag} {H : Hp} {v : V} {i : Bool} (h : Dp K H v (.bool i)) : v = .bl i := by cases h; rfl
theorem Dp.tup_ {K : PySem.W.Frag} {H : Hp} {v : V} {ds : List PyData} (h : Dp K H v (.tuple ds)) : ∃ a xs, v = .ref a ∧ TupA H a (isRs ds) xs ∧ DpAll K H xs ds := by
  cases h with
  | tup hs ha => exact ⟨_, _, rfl, hs, ha⟩
theorem Dp.lst_ {K : PySem.W.Frag} {H : Hp} {v : V} {ds : List PyData} (h : Dp K H v (.list ds)) : ∃ a xs, v = .ref a ∧ H a = some (.lst xs) ∧ DpAll K H xs ds := by
  cases h with
  | lst hs ha => exact ⟨_, _, rfl, hs, ha⟩
theorem te_binI {op : Operator} {C : Int → Int → Prop} {g : Int → Int → Int} {i j : Int} (ho : OpR X (binaryOp op) (rI C fun i j => .int (g i j))) (ha : PE X a (tT ρ (dI X i))) (hb : PE X b (tT ρ (dI X j))) (hc : C i j) : PE X (.BinOp a op b pos) (tT ρ (dI X (g i j))) :=
  te_op ho ha hb fun x y H Q hx hy k => ⟨i, j, Dp.int_ hx, Dp.int_ hy, hc, k _ H (Gr.refl H) (Dp.int _)⟩
theorem te_binI0 {op : Operator} {g : Int → Int → Int} {i j : Int} (ho : OpR X (binaryOp op) (rI0 fun i j => .int (g i j))) (ha : PE X a (tT ρ (dI X i))) (hb : PE X b (tT ρ (dI X j))) : PE X (.BinOp a op b pos) (tT ρ (dI X (g i j))) :=
  te_op ho ha hb fun x y H Q hx hy k => ⟨i, j, Dp.int_ hx, Dp.int_ hy, k _ H (Gr.refl H) (Dp.int _)⟩
theorem te_addI {i j : Int} (ha : PE X a (tT ρ (dI X i))) (hb : PE X b (tT ρ (dI X j))) : PE X (.BinOp a .Add b pos) (tT ρ (dI X (i + j))) := te_binI0 (g := fun i j => i + j) op_add ha hb
theorem te_subI {i j : Int} (ha : PE X a (tT ρ (dI X i))) (hb : PE X b (tT ρ (dI X j))) : PE X (.BinOp a .Sub b pos) (tT ρ (dI X (i - j))) := te_binI0 (g := fun i j => i - j) op_sub ha hb
theorem te_mulI {i j : Int} (ha : PE X a (tT ρ (dI X i))) (hb : PE X b (tT ρ (dI X j))) (hc : CMul i j) : PE X (.BinOp a .Mult b pos) (tT ρ (dI X (i * j))) := te_binI (g := fun i j => i * j) op_mul ha hb hc
theorem te_modI {i j : Int} (ha : PE X a (tT ρ (dI X i))) (hb : PE X b (tT ρ (dI X j))) (hc : 0 < j) : PE X (.BinOp a .Mod b pos) (tT ρ (dI X (i % j))) := te_binI (C := fun _ j => 0 < j) (g := fun i j => i % j) op_mod ha hb hc
theorem te_fdivI {i j : Int} (ha : PE X a (tT ρ (dI X i))) (hb : PE X b (tT ρ (dI X j))) (hc : CDiv i j) : PE X (.BinOp a .FloorDiv b pos) (tT ρ (dI X (i / j))) := te_binI (g := fun i j => i / j) op_fdiv ha hb hc
theorem te_negI {i : Int} (ha : PE X a (tT ρ (dI X i))) : PE X (.UnaryOp .USub a pos) (tT ρ (dI X (-i))) := pe_weak (pe_un un_neg ha) fun σ H Q q => ⟨q.1, fun x H1 e1 hx => ⟨i, Dp.int_ hx, q.2 _ H1 e1 (Dp.int _)⟩⟩
/-! comparisons of ints -/
theorem te_cmpI {op : CmpOp} {g : Int → Int → Bool} {i j : Int} (ho : OpR X (compareOp op) (rI0 fun i j => .bl (g i j))) (ha : PE X a (tT ρ (dI X i))) (hb : PE X b (tT ρ (dI X j))) (hm : behindInMarks op b = false) : PE X (.Compare a [op] [b] pos) (tT ρ (dB X (g i j))) :=
  te_cmp ho ha hb (fun x y H Q hx hy k => ⟨i, j, Dp.int_ hx, Dp.int_ hy, k _ H (Gr.refl H) (Dp.bl _)⟩) hm
theorem tt_cmpI {op : CmpOp} {g : Int → Int → Bool} {i j : Int} (ho : OpR X (compareOp op) (rI0 fun i j => .bl (g i j))) (ha : PE X a (tT ρ (dI X i))) (hb : PE X b (tT ρ (dI X j))) (hm : behindInMarks op b = false) : PT X (.Compare a [op] [b] pos) (tTB ρ (g i j)) :=
  tt_cmp ho ha hb (fun x y H Q hx hy k => ⟨i, j, Dp.int_ hx, Dp.int_ hy, k⟩) hm
variable {i j : Int}
theorem te_lt (ha : PE X a (tT ρ (dI X i))) (hb : PE X b (tT ρ (dI X j))) : PE X (.Compare a [.Lt] [b] pos) (tT ρ (dB X (decide (i < j)))) := te_cmpI (g := fun i j => decide (i < j)) op_lt ha hb (nomark _)
theorem te_le' (ha : PE X a (tT ρ (dI X i))) (hb : PE X b (tT ρ (dI X j))) : PE X (.Compare a [.LtE] [b] pos) (tT ρ (dB X (decide (i ≤ j)))) := te_cmpI (g := fun i j => decide (i ≤ j)) op_le ha hb (nomark _)
theorem te_gt (ha : PE X a (tT ρ (dI X i))) (hb : PE X b (tT ρ (dI X j))) : PE X (.Compare a [.Gt] [b] pos) (tT ρ (dB X (decide (j < i)))) := te_cmpI (g := fun i j => decide (j < i)) op_gt ha hb (nomark _)
theorem te_ge (ha : PE X a (tT ρ (dI X i))) (hb : PE X b (tT ρ (dI X j))) : PE X (.Compare a [.GtE] [b] pos) (tT ρ (dB X (decide (j ≤ i)))) := te_cmpI (g := fun i j => decide (j ≤ i)) op_ge ha hb (nomark _)
theorem tt_lt (ha : PE X a (tT ρ (dI X i))) (hb : PE X b (tT ρ (dI X j))) : PT X (.Compare a [.Lt] [b] pos) (tTB ρ (decide (i < j))) := tt_cmpI (g := fun i j => decide (i < j)) op_lt ha hb (nomark _)
theorem tt_le (ha : PE X a (tT ρ (dI X i))) (hb : PE X b (tT ρ (dI X j))) : PT X (.Compare a [.LtE] [b] pos) (tTB ρ (decide (i ≤ j))) := tt_cmpI (g := fun i j => decide (i ≤ j)) op_le ha hb (nomark _)
theorem tt_gt (ha : PE X a (tT ρ (dI X i))) (hb : PE X b (tT ρ (dI X j))) : PT X (.Compare a [.Gt] [b] pos) (tTB ρ (decide (j < i))) := tt_cmpI (g := fun i j => decide (j < i)) op_gt ha hb (nomark _)
theorem tt_ge (ha : PE X a (tT ρ (dI X i))) (hb : PE X b (tT ρ (dI X j))) : PT X (.Compare a [.GtE] [b] pos) (tTB ρ (decide (j ≤ i))) := tt_cmpI (g := fun i j => decide (j ≤ i)) op_ge ha hb (nomark _)

/-! ### == and != of ints and of texts -/
theorem te_eqI (ha : PE X a (tT ρ (dI X i))) (hb : PE X b (tT ρ (dI X j))) : PE X (.Compare a [.Eq] [b] pos) (tT ρ (dB X (decide (i = j)))) :=
  te_cmp op_eq ha hb (fun x y H Q hx hy k => by
    rw [Dp.int_ hx, Dp.int_ hy]
    have e : decide (V.int i = V.int j) = decide (i = j) := by simp
    exact ⟨rfl, by rw [e]; exact k _ H (Gr.refl H) (Dp.bl _)⟩) (nomark _)
theorem tt_eqI (ha : PE X a (tT ρ (dI X i))) (hb : PE X b (tT ρ (dI X j))) : PT X (.Compare a [.Eq] [b] pos) (tTB ρ (decide (i = j))) :=
  tt_cmp op_eq ha hb (fun x y H Q hx hy k => by
    rw [Dp.int_ hx, Dp.int_ hy]
    have e : decide (V.int i = V.int j) = decide (i = j) := by simp
    exact ⟨rfl, by rw [e]; exact k⟩) (nomark _)
theorem te_neI (ha : PE X a (tT ρ (dI X i))) (hb : PE X b (tT ρ (dI X j))) : PE X (.Compare a [.NotEq] [b] pos) (tT ρ (dB X (!decide (i = j)))) :=
  te_cmp op_ne ha hb (fun x y H Q hx hy k => by
    rw [Dp.int_ hx, Dp.int_ hy]
    have e : decide (V.int i = V.int j) = decide (i = j) := by simp
    exact ⟨rfl, by rw [e]; exact k _ H (Gr.refl H) (Dp.bl _)⟩) (nomark _)
theorem tt_neI (ha : PE X a (tT ρ (dI X i))) (hb : PE X b (tT ρ (dI X j))) : PT X (.Compare a [.NotEq] [b] pos) (tTB ρ (!decide (i = j))) :=
  tt_cmp op_ne ha hb (fun x y H Q hx hy k => by
    rw [Dp.int_ hx, Dp.int_ hy]
    have e : decide (V.int i = V.int j) = decide (i = j) := by simp
    exact ⟨rfl, by rw [e]; exact k⟩) (nomark _)
variable {y z : Str}
theorem te_eqS (ha : PE X a (tT ρ (dS X y))) (hb : PE X b (tT ρ (dS X z))) : PE X (.Compare a [.Eq] [b] pos) (tT ρ (dB X (decide (y = z)))) :=
  te_cmp op_eq ha hb (fun x y' H Q hx hy k => by
    rw [Dp.str_ hx, Dp.str_ hy]
    have e : decide (V.str y = V.str z) = decide (y = z) := by simp
    exact ⟨rfl, by rw [e]; exact k _ H (Gr.refl H) (Dp.bl _)⟩) (nomark _)
theorem tt_eqS (ha : PE X a (tT ρ (dS X y))) (hb : PE X b (tT ρ (dS X z))) : PT X (.Compare a [.Eq] [b] pos) (tTB ρ (decide (y = z))) :=
  tt_cmp op_eq ha hb (fun x y' H Q hx hy k => by
    rw [Dp.str_ hx, Dp.str_ hy]
    have e : decide (V.str y = V.str z) = decide (y = z) := by simp
    exact ⟨rfl, by rw [e]; exact k⟩) (nomark _)
theorem te_neS (ha : PE X a (tT ρ (dS X y))) (hb : PE X b (tT ρ (dS X z))) : PE X (.Compare a [.NotEq] [b] pos) (tT ρ (dB X (!decide (y = z)))) :=
  te_cmp op_ne ha hb (fun x y' H Q hx hy k => by
    rw [Dp.str_ hx, Dp.str_ hy]
    have e : decide (V.str y = V.str z) = decide (y = z) := by simp
    exact ⟨rfl, by rw [e]; exact k _ H (Gr.refl H) (Dp.bl _)⟩) (nomark _)
theorem tt_neS (ha : PE X a (tT ρ (dS X y))) (hb : PE X b (tT ρ (dS X z))) : PT X (.Compare a [.NotEq] [b] pos) (tTB ρ (!decide (y = z))) :=
  tt_cmp op_ne ha hb (fun x y' H Q hx hy k => by
    rw [Dp.str_ hx, Dp.str_ hy]
    have e : decide (V.str y = V.str z) = decide (y = z) := by simp
    exact ⟨rfl, by rw [e]; exact k⟩) (nomark _)
theorem te_eqB {c d : Bool} (ha : PE X a (tT ρ (dB X c))) (hb : PE X b (tT ρ (dB X d))) : PE X (.Compare a [.Eq] [b] pos) (tT ρ (dB X (decide (c = d)))) :=
  te_cmp op_eq ha hb (fun x y' H Q hx hy k => by
    rw [Dp.bl_ hx, Dp.bl_ hy]
    have e : decide (V.bl c = V.bl d) = decide (c = d) := by simp
    exact ⟨rfl, by rw [e]; exact k _ H (Gr.refl H) (Dp.bl _)⟩) (nomark _)
/-- texts by their order -/
theorem te_ltS (ha : PE X a (tT ρ (dS X y))) (hb : PE X b (tT ρ (dS X z))) : PE X (.Compare a [.Lt] [b] pos) (tT ρ (dB X (decide (y.cps.toList < z.cps.toList)))) :=
  te_cmp op_lt_str ha hb (fun x y' H Q hx hy k => ⟨y, z, Dp.str_ hx, Dp.str_ hy, k _ H (Gr.refl H) (Dp.bl _)⟩) (nomark _)
/-! ### data of any depth -/
variable {d d' : PyData}
theorem te_eqD (hu : X.A.units + 64 < cLine) (ha : PE X a (tT ρ (tyD X.K d))) (hb : PE X b (tT ρ (tyD X.K d'))) (s1 : SeqAt.shaped d = true) (s2 : SeqAt.shaped d' = true) : PE X (.Compare a [.Eq] [b] pos) (tT ρ (dB X (PyData.eqv d d'))) :=
  te_cmp (op_eqD hu) ha hb (fun x y' H Q hx hy k => ⟨d, d', Dp.lib hx, Dp.lib hy, s1, s2, k _ H (Gr.refl H) (Dp.bl _)⟩) (nomark _)
theorem tt_eqD (hu : X.A.units + 64 < cLine) (ha : PE X a (tT ρ (tyD X.K d))) (hb : PE X b (tT ρ (tyD X.K d'))) (s1 : SeqAt.shaped d = true) (s2 : SeqAt.shaped d' = true) : PT X (.Compare a [.Eq] [b] pos) (tTB ρ (PyData.eqv d d')) :=
  tt_cmp (op_eqD hu) ha hb (fun x y' H Q hx hy k => ⟨d, d', Dp.lib hx, Dp.lib hy, s1, s2, k⟩) (nomark _)
/-- in a list or a tuple of data -/
theorem room_in (sd : SeqAt.shaped d = true) {ds : List PyData} (hu : X.A.units + 65 < cLine) : X.A.units + 1 + min (PyData.depthAll ds) d.depth < cLine := by
  have h := SeqAt.depth_of_shaped sd
  have h2 : min (PyData.depthAll ds) d.depth ≤ d.depth := Nat.min_le_right _ _
  omega
def rInT (K : PySem.W.Frag) : R2 := fun x y H Q => ∃ d ds, L2.Dp K H x d ∧ L2.Dp K H y (.tuple ds) ∧ SeqAt.shaped d = true ∧ SeqAt.shaped (.tuple ds) = true ∧ Q (.bl (ds.any fun z => PyData.eqv z d)) H
def rNotInT (K : PySem.W.Frag) : R2 := fun x y H Q => ∃ d ds, L2.Dp K H x d ∧ L2.Dp K H y (.tuple ds) ∧ SeqAt.shaped d = true ∧ SeqAt.shaped (.tuple ds) = true ∧ Q (.bl (!ds.any fun z => PyData.eqv z d)) H
theorem op_inT (hu : X.A.units + 65 < cLine) : OpR X (compareOp .In) (rInT X.K) := by
  intro pins s σ H x y v u Q I rx ry h
  obtain ⟨d, ds, hd, he, sd, se, q⟩ := h
  obtain ⟨as, r1⟩ := L2.Dp.reads I d x v hd rx
  obtain ⟨bs, r2⟩ := L2.Dp.reads I (.tuple ds) y u he ry
  exact SeqAt.in_tuple_reads r2 r1 (SeqAt.canLay_of_shaped se) (SeqAt.canLay_of_shaped sd) (room_in sd hu) ⟨.bl _, H, I, rfl, q⟩
theorem op_notInT (hu : X.A.units + 65 < cLine) : OpR X (compareOp .NotIn) (rNotInT X.K) := by
  intro pins s σ H x y v u Q I rx ry h
  obtain ⟨d, ds, hd, he, sd, se, q⟩ := h
  obtain ⟨as, r1⟩ := L2.Dp.reads I d x v hd rx
  obtain ⟨bs, r2⟩ := L2.Dp.reads I (.tuple ds) y u he ry
  exact SeqAt.notIn_tuple_reads r2 r1 (SeqAt.canLay_of_shaped se) (SeqAt.canLay_of_shaped sd) (room_in sd hu) ⟨.bl _, H, I, rfl, q⟩
variable {ds : List PyData}
abbrev inD (ds : List PyData) (d : PyData) : Bool := ds.any fun z => PyData.eqv z d
theorem te_inT (hu : X.A.units + 65 < cLine) (ha : PE X a (tT ρ (tyD X.K d))) (hb : PE X b (tT ρ (tyN X.K (.tuple ds)))) (s1 : SeqAt.shaped d = true) (s2 : SeqAt.shaped (.tuple ds) = true) (hm : behindInMarks .In b = false := by rfl) : PE X (.Compare a [.In] [b] pos) (tT ρ (dB X (inD ds d))) :=
  te_cmp (op_inT hu) ha hb (fun x y' H Q hx hy k => ⟨d, ds, Dp.lib hx, hy, s1, s2, k _ H (Gr.refl H) (Dp.bl _)⟩) hm
theorem tt_inT (hu : X.A.units + 65 < cLine) (ha : PE X a (tT ρ (tyD X.K d))) (hb : PE X b (tT ρ (tyN X.K (.tuple ds)))) (s1 : SeqAt.shaped d = true) (s2 : SeqAt.shaped (.tuple ds) = true) (hm : behindInMarks .In b = false := by rfl) : PT X (.Compare a [.In] [b] pos) (tTB ρ (inD ds d)) :=
  tt_cmp (op_inT hu) ha hb (fun x y' H Q hx hy k => ⟨d, ds, Dp.lib hx, hy, s1, s2, k⟩) hm
theorem te_notInT (hu : X.A.units + 65 < cLine) (ha : PE X a (tT ρ (tyD X.K d))) (hb : PE X b (tT ρ (tyN X.K (.tuple ds)))) (s1 : SeqAt.shaped d = true) (s2 : SeqAt.shaped (.tuple ds) = true) (hm : behindInMarks .NotIn b = false := by rfl) : PE X (.Compare a [.NotIn] [b] pos) (tT ρ (dB X (!inD ds d))) :=
  te_cmp (op_notInT hu) ha hb (fun x y' H Q hx hy k => ⟨d, ds, Dp.lib hx, hy, s1, s2, k _ H (Gr.refl H) (Dp.bl _)⟩) hm
theorem tt_notInT (hu : X.A.units + 65 < cLine) (ha : PE X a (tT ρ (tyD X.K d))) (hb : PE X b (tT ρ (tyN X.K (.tuple ds)))) (s1 : SeqAt.shaped d = true) (s2 : SeqAt.shaped (.tuple ds) = true) (hm : behindInMarks .NotIn b = false := by rfl) : PT X (.Compare a [.NotIn] [b] pos) (tTB ρ (!inD ds d)) :=
  tt_cmp (op_notInT hu) ha hb (fun x y' H Q hx hy k => ⟨d, ds, Dp.lib hx, hy, s1, s2, k⟩) hm
theorem te_inL (hu : X.A.units + 65 < cLine) (ha : PE X a (tT ρ (tyD X.K d))) (hb : PE X b (tT ρ (tyD X.K (.list ds)))) (s1 : SeqAt.shaped d = true) (s2 : SeqAt.shaped (.list ds) = true) (hm : behindInMarks .In b = false := by rfl) : PE X (.Compare a [.In] [b] pos) (tT ρ (dB X (inD ds d))) :=
  te_cmp (op_inD hu) ha hb (fun x y' H Q hx hy k => ⟨d, ds, Dp.lib hx, Dp.lib hy, s1, s2, k _ H (Gr.refl H) (Dp.bl _)⟩) hm
theorem tt_inL (hu : X.A.units + 65 < cLine) (ha : PE X a (tT ρ (tyD X.K d))) (hb : PE X b (tT ρ (tyD X.K (.list ds)))) (s1 : SeqAt.shaped d = true) (s2 : SeqAt.shaped (.list ds) = true) (hm : behindInMarks .In b = false := by rfl) : PT X (.Compare a [.In] [b] pos) (tTB ρ (inD ds d)) :=
  tt_cmp (op_inD hu) ha hb (fun x y' H Q hx hy k => ⟨d, ds, Dp.lib hx, Dp.lib hy, s1, s2, k⟩) hm
theorem tt_notInL (hu : X.A.units + 65 < cLine) (ha : PE X a (tT ρ (tyD X.K d))) (hb : PE X b (tT ρ (tyD X.K (.list ds)))) (s1 : SeqAt.shaped d = true) (s2 : SeqAt.shaped (.list ds) = true) (hm : behindInMarks .NotIn b = false := by rfl) : PT X (.Compare a [.NotIn] [b] pos) (tTB ρ (!inD ds d)) :=
  tt_cmp (op_notInD hu) ha hb (fun x y' H Q hx hy k => ⟨d, ds, Dp.lib hx, Dp.lib hy, s1, s2, k⟩) hm
/-- a sign in a text -/
theorem te_inS {c : Nat} (ha : PE X a (tT ρ (dS X ⟨#[c]⟩))) (hb : PE X b (tT ρ (dS X z))) (hm : behindInMarks .In b = false := by rfl) : PE X (.Compare a [.In] [b] pos) (tT ρ (dB X (decide (c ∈ z.cps.toList)))) :=
  te_cmp op_in_sign ha hb (fun x y' H Q hx hy k => ⟨c, z, Dp.str_ hx, Dp.str_ hy, k _ H (Gr.refl H) (Dp.bl _)⟩) hm
/-! ### None -/
def isNone : PyData → Bool
  | .none => true
  | _ => false
theorem Dp.isNone {K : PySem.W.Frag} {H : Hp} {v : V} (h : Dp K H v d) : decide (v = .non) = isNone d := by
  cases h <;> first | rfl | simp [K14.isNone]
theorem te_isN {j} {p2 : Pos} (ha : PE X a (tT ρ (tyD X.K d))) : PE X (.Compare a [.Is] [.Constant .none j p2] pos) (tT ρ (dB X (isNone d))) :=
  te_cmp op_isN ha te_non (fun x y' H Q hx hy k => by
    cases (show Dp X.K H y' .none from hy)
    exact ⟨rfl, by rw [Dp.isNone hx]; exact k _ H (Gr.refl H) (Dp.bl _)⟩) (nomark _)
theorem tt_isN {j} {p2 : Pos} (ha : PE X a (tT ρ (tyD X.K d))) : PT X (.Compare a [.Is] [.Constant .none j p2] pos) (tTB ρ (isNone d)) :=
  tt_cmp op_isN ha te_non (fun x y' H Q hx hy k => by
    cases (show Dp X.K H y' .none from hy)
    exact ⟨rfl, by rw [Dp.isNone hx]; exact k⟩) (nomark _)
theorem te_notN {j} {p2 : Pos} (ha : PE X a (tT ρ (tyD X.K d))) : PE X (.Compare a [.IsNot] [.Constant .none j p2] pos) (tT ρ (dB X (!isNone d))) :=
  te_cmp op_notN ha te_non (fun x y' H Q hx hy k => by
    cases (show Dp X.K H y' .none from hy)
    exact ⟨rfl, by rw [Dp.isNone hx]; exact k _ H (Gr.refl H) (Dp.bl _)⟩) (nomark _)
theorem tt_notN {j} {p2 : Pos} (ha : PE X a (tT ρ (tyD X.K d))) : PT X (.Compare a [.IsNot] [.Constant .none j p2] pos) (tTB ρ (!isNone d)) :=
  tt_cmp op_notN ha te_non (fun x y' H Q hx hy k => by
    cases (show Dp X.K H y' .none from hy)
    exact ⟨rfl, by rw [Dp.isNone hx]; exact k⟩) (nomark _)

/-! ### texts, tuples, lists put together -/
theorem te_addS (ha : PE X a (tT ρ (dS X y))) (hb : PE X b (tT ρ (dS X z))) (hl : y.length + z.length ≤ 1000000) : PE X (.BinOp a .Add b pos) (tT ρ (dS X (y ++ z))) :=
  te_op op_add_str ha hb fun x y' H Q hx hy k => ⟨y, z, Dp.str_ hx, Dp.str_ hy, by rw [sizeLine_eq]; omega, k _ H (Gr.refl H) (Dp.str _)⟩
variable {es : List PyData}
theorem DpAll.app {K : PySem.W.Frag} {H : Hp} : ∀ {xs ys : List V} {ds es : List PyData}, DpAll K H xs ds → DpAll K H ys es → DpAll K H (xs ++ ys) (ds ++ es)
  | [], _, [], _, _, h => h
  | _ :: _, _, _ :: _, _, h1, h2 => by
    cases h1 with
    | cons a b => exact .cons a (DpAll.app b h2)
/-- t + u; a new tuple's object is told, too -/
theorem op_catB {X : Cx} (b0 : Bool) : OpR X (binaryOp .Add) (fun x y H Q => ∃ a b xs ys, x = .ref a ∧ y = .ref b ∧ SqT X.K H a xs ∧ SqT X.K H b ys ∧ xs.length + ys.length ≤ sizeLine ∧ (xs = [] → Q (.ref b) H) ∧ (xs ≠ [] → ys = [] → Q (.ref a) H) ∧ (xs ≠ [] → ys ≠ [] → ∀ p u, u.dict = none → H p = none → Q (.ref p) (upd H p (tupHO b0 u (xs ++ ys))))) := by
  intro pins s σ H x y v u Q I rx ry ⟨a, b, xs, ys, e1, e2, ha, hb, hz, q0, q1, q2⟩
  subst e1 e2
  by_cases hx : xs = []
  · exact op_catA pins s σ H _ _ v u Q I rx ry ⟨a, b, xs, ys, rfl, rfl, ha, hb, hz, q0, q1, fun z => absurd hx z⟩
  by_cases hy : ys = []
  · exact op_catA pins s σ H _ _ v u Q I rx ry ⟨a, b, xs, ys, rfl, rfl, ha, hb, hz, q0, q1, fun _ z => absurd hy z⟩
  cases rx
  cases ry
  obtain ⟨its, r1, p1, _⟩ := I.tuple ha
  obtain ⟨its2, r2, p2, _⟩ := I.tuple hb
  refine HT.cat_tup p1 p2 (fun z => hx (r1.nil_iff.mp z)) (fun z => absurd (r2.nil_iff.mp z) hy) (fun z => ?_) (by rw [← r1.length, ← r2.length]; exact hz)
  exact ⟨.ref s.heap.objs.size, _, I.laid (t' := s.toks) (o := tupHO b0 _ (xs ++ ys)) (fun b ob q => Heap.get?_push_of_some _ q) (Nat.le_refl _) (tupHO_ok (by rw [List.length_append]; exact hz) (r1.append r2) (Heap.get?_push_size _ rfl) (IsTup.new _ _)), rfl, q2 hx hy _ _ rfl (I.hok.fresh (Nat.le_refl _))⟩
/-- tuple(list) -/
theorem call_tupleB {X : Cx} (b0 : Bool) : CallR X (.type "tuple") (fun xs H Q => ∃ p ys, xs = [.ref p] ∧ SqL X.K H p ys ∧ ∀ l u, u.dict = none → H l = none → Q (.ref l) (upd H l (tupHO b0 u ys))) := by
  intro pins s σ H xs us Q I r ⟨p, ys, e, hq, q⟩
  subst e
  obtain ⟨u, rfl, rx⟩ := vals1 r
  cases rx
  obtain ⟨its, r', pl, hz⟩ := I.list hq
  have hlen := r'.length
  refine call_tuple_list pl.isList (fun h' kp => ?_) (by simp only [List.size_toArray] <;> omega)
  have I1 : Inv X pins σ H { s with heap := h' } := I.kept (t' := s.toks) kp
  exact ⟨.ref h'.objs.size, _, I1.laid (t' := s.toks) (o := tupHO b0 _ ys) (fun b o e => Heap.get?_push_of_some _ e) (Nat.le_refl _) (tupHO_ok hz r' (Heap.get?_push_size _ rfl) (IsTup.new _ _)), rfl, q _ _ rfl (I1.hok.fresh (Nat.le_refl _))⟩
/-- t[lo:hi] -/
theorem sl_tupB {X : Cx} (b0 : Bool) : SlR X (fun x lo hi H Q => ∃ a xs, x = .ref a ∧ SqT X.K H a xs ∧ (HT.sIx xs.length 0 lo = 0 ∧ HT.sIx xs.length xs.length hi = xs.length → Q (.ref a) H) ∧ (¬ (HT.sIx xs.length 0 lo = 0 ∧ HT.sIx xs.length xs.length hi = xs.length) → ∀ p u, u.dict = none → H p = none → Q (.ref p) (upd H p (tupHO b0 u (cutV xs lo hi))))) := by
  intro pins s σ H x v vl vu lo hi sl Q I rx hs pl pu ⟨a, xs, e, hx, q1, q2⟩
  subst e
  by_cases hw : HT.sIx xs.length 0 lo = 0 ∧ HT.sIx xs.length xs.length hi = xs.length
  · exact sl_tupA pins s σ H _ v vl vu lo hi sl Q I rx hs pl pu ⟨a, xs, rfl, hx, q1, fun z => absurd hw z⟩
  cases rx
  obtain ⟨its, r, ht, hz⟩ := I.tuple hx
  have hlen : its.toArray.size = xs.length := by rw [List.size_toArray]; exact r.length.symm
  refine ⟨"tuple", _, PyProof.Rows.slot_tuple_getitem.lookup, ht.typeIs, HT.getItem_tuple_cut ht hs pl pu (by rw [hlen]; exact hw) ?_ (by rw [hlen]; exact hz)⟩
  rw [hlen]
  exact ⟨.ref s.heap.objs.size, _, I.laid (t' := s.toks) (o := tupHO b0 _ (cutV xs lo hi)) (fun b ob q => Heap.get?_push_of_some _ q) (Nat.le_refl _) (tupHO_ok (Nat.le_trans (cutV_length xs lo hi) hz) ((r.drop (HT.sIx xs.length 0 lo)).take (HT.sIx xs.length xs.length hi - HT.sIx xs.length 0 lo)) (Heap.get?_push_size _ rfl) (IsTup.new _ _)), rfl, q2 hw _ _ rfl (I.hok.fresh (Nat.le_refl _))⟩
theorem te_addT (ha : PE X a (tT ρ (tyD X.K (.tuple ds)))) (hb : PE X b (tT ρ (tyD X.K (.tuple es)))) (hl : ds.length + es.length ≤ 1000000) : PE X (.BinOp a .Add b pos) (tT ρ (tyD X.K (.tuple (ds ++ es)))) :=
  te_op (op_catB (isRs (ds ++ es))) ha hb fun x y' H Q hx hy k => by
    obtain ⟨p, xs, rfl, hs, hA⟩ := Dp.tup_ hx
    obtain ⟨q, ys, rfl, hs2, hB⟩ := Dp.tup_ hy
    have l1 := DpAll.length hA
    have l2 := DpAll.length hB
    refine ⟨p, q, xs, ys, rfl, rfl, hs.sq, hs2.sq, by rw [sizeLine_eq]; omega, fun z => ?_, fun _ z => ?_, fun _ _ r u hu hr => ?_⟩
    · subst z
      have e : ds = [] := List.eq_nil_of_length_eq_zero l1.symm
      exact k _ H (Gr.refl H) (by rw [e]; exact hy)
    · subst z
      have e : es = [] := List.eq_nil_of_length_eq_zero l2.symm
      exact k _ H (Gr.refl H) (by rw [e, List.append_nil]; exact hx)
    · exact k _ _ (Gr.new hr) (.tup ⟨u, hu, upd_same⟩ (Gr.dpAll (Gr.new hr) _ _ (DpAll.app hA hB)))
theorem te_addL (ha : PE X a (tT ρ (tyTL X.K ds))) (hb : PE X b (tT ρ (tyTL X.K es))) (hl : ds.length + es.length ≤ 1000000) : PE X (.BinOp a .Add b pos) (tT ρ (tyTL X.K (ds ++ es))) :=
  te_op op_cat ha hb fun x y' H Q ⟨p, xs, e1, h1, hA⟩ ⟨q, ys, e2, h2, hB⟩ k => by
    have l1 := DpAll.length hA
    have l2 := DpAll.length hB
    exact ⟨p, q, xs, ys, e1, e2, h1, h2, by rw [sizeLine_eq]; omega, fun r hr => k _ _ (Gr.new hr) ⟨r, _, rfl, upd_same, Gr.dpAll (Gr.new hr) _ _ (DpAll.app hA hB)⟩⟩
/-! ### len -/
theorem ta_one {p : Expr} (h : PE X p (tT ρ T)) (hs : starEach [p] X.env = [(false, eval p X.env)]) : PA X [p] (tTA ρ [T]) := ta_cons h ta_nil (by rw [hs]; rfl)
/-- a call of a built-in with one argument -/
theorem te_b1 {id : String} {r : List V → Hp → VK → Prop} {x : Str} {p : Pos} (hc : CallR X (.builtin id) r) (hm : X.mg x = none) (hv : bootBuiltins x = some (.builtin id)) (ha : PE X a (tT ρ A)) (hr : ∀ v H (Q : VK), A.p H v → (∀ v H', Gr H H' → T.p H' v → Q v H') → r [v] H Q)
    (hg : Gl X x := by rfl) (hs : starEach [a] X.env = [(false, eval a X.env)] := by rfl) (hn : x ≠ "__name__" := by decide) (hdb : (x == ("__debug__" : Str)) = false := by decide) : PE X (.Call (.Name x p) [a] [] pos) (tT ρ T) :=
  te_callB hc hm hv (ta_one ha hs) (fun vs H Q hv k => by
    match vs, hv with
    | [v], hv => exact hr v H Q hv.1 k) hg hn hdb (by rw [hs]; rfl) (by rfl)
theorem te_t1 {id : String} {r : List V → Hp → VK → Prop} {x : Str} {p : Pos} (hc : CallR X (.type id) r) (hm : X.mg x = none) (hv : bootBuiltins x = some (.type id)) (ha : PE X a (tT ρ A)) (hr : ∀ v H (Q : VK), A.p H v → (∀ v H', Gr H H' → T.p H' v → Q v H') → r [v] H Q)
    (hg : Gl X x := by rfl) (hs : starEach [a] X.env = [(false, eval a X.env)] := by rfl) (hn : x ≠ "__name__" := by decide) (hdb : (x == ("__debug__" : Str)) = false := by decide) : PE X (.Call (.Name x p) [a] [] pos) (tT ρ T) :=
  te_callTy hc hm hv (ta_one ha hs) (fun vs H Q hv k => by
    match vs, hv with
    | [v], hv => exact hr v H Q hv.1 k) hg hn hdb (by rw [hs]; rfl) (by rfl)
variable {p : Pos}
/-- how long a datum is -/
def lenD : PyData → Option Nat
  | .str z => some z.length
  | .tuple ds => some ds.length
  | .list ds => some ds.length
  | _ => none
theorem te_len {n : Nat} (hm : X.mg "len" = none) (ha : PE X a (tT ρ (tyD X.K d))) (hl : lenD d = some n := by rfl) (hz : n ≤ 1000000 := by first | decide | omega) (hg : Gl X "len" := by rfl) (hs : starEach [a] X.env = [(false, eval a X.env)] := by rfl) : PE X (.Call (.Name "len" p) [a] [] pos) (tT ρ (dI X n)) :=
  te_b1 call_len hm PySem.boot_len ha (fun v H Q hv k => by
    cases d with
    | str z =>
      rw [Dp.str_ hv]
      have e : z.length = n := Option.some.inj hl
      exact ⟨_, n, rfl, ⟨by rw [sizeLine_eq]; omega, e.symm⟩, k _ H (Gr.refl H) (Dp.int _)⟩
    | tuple ds =>
      obtain ⟨q, xs, rfl, h1, h2⟩ := Dp.tup_ hv
      have e : ds.length = n := Option.some.inj hl
      exact ⟨_, n, rfl, .inr ⟨xs, h1.sq, by rw [DpAll.length h2, e]⟩, k _ H (Gr.refl H) (Dp.int _)⟩
    | list ds =>
      obtain ⟨q, xs, rfl, h1, h2⟩ := Dp.lst_ hv
      have e : ds.length = n := Option.some.inj hl
      exact ⟨_, n, rfl, .inl ⟨xs, .of h1, by rw [DpAll.length h2, e]⟩, k _ H (Gr.refl H) (Dp.int _)⟩
    | _ => cases hl) hg hs
/-! ### isinstance -/
def tyName : PyData → String
  | .none => "NoneType"
  | .bool _ => "bool"
  | .int _ => "int"
  | .str _ => "str"
  | .list _ => "list"
  | .tuple _ => "tuple"
  | .dict _ => "dict"
theorem tyX_of {K : PySem.W.Frag} {H : Hp} {v : V} (h : Dp K H v d) : TyX K H v (.type (tyName d)) := by
  cases h with
  | non => exact .base .non
  | bl b => exact .base (.bl b)
  | int i => exact .base (.int i)
  | str x => exact .base (.str x)
  | lst hs _ =>
    exact .base (.lst hs)
  | @tup a xs ds hs _ =>
    obtain ⟨u, _, hs⟩ := hs
    cases hb : isRs ds with
    | true =>
      rw [hb] at hs
      exact .fTuple hs
    | false =>
      rw [hb] at hs
      exact .base (.tup hs)
/-- isinstance(x, T), T a built-in class -/
theorem te_isi {n : Str} {ty : String} {c : Bool} {np : Pos} (hm : X.mg "isinstance" = none) (ha : PE X a (tT ρ (tyD X.K d))) (hmn : X.mg n = none) (hv : bootBuiltins n = some (.type ty)) (hb : kitB (tyName d) ty = some c)
    (hg : Gl X "isinstance" := by rfl) (hgn : Gl X n := by rfl) (hs : starEach [a, .Name n np] X.env = [(false, eval a X.env), (false, eval (.Name n np) X.env)] := by rfl) (hnn : n ≠ "__name__" := by decide) (hdb : (n == ("__debug__" : Str)) = false := by decide) :
    PE X (.Call (.Name "isinstance" p) [a, .Name n np] [] pos) (tT ρ (dB X c)) :=
  te_callB call_isi hm boot_isinstance (ta_cons ha (ta_one (T := tyV (.ty ty)) (te_c (v := .ty ty) (pe_bltn hgn hmn hv (show RelV (.ty ty) _ from rfl) hnn hdb) fun _ => rfl) (by rfl)) (by rw [hs]; rfl)) (fun vs H Q hv k => by
    match vs, hv with
    | [v, w], hv =>
      obtain ⟨h1, h2, _⟩ := hv
      have e : w = .ty ty := h2
      subst e
      exact ⟨v, .ty ty, _, .type ty, c, rfl, .ty ty, tyX_of h1, kit_ty hb, k _ H (Gr.refl H) (Dp.bl _)⟩) hg (by decide) (by decide) (by rw [hs]; rfl) (by rfl)
/-! ### all, tuple, list -/
theorem DpAll.bls {K : PySem.W.Frag} {H : Hp} : ∀ {xs : List V} {bs : List Bool}, DpAll K H xs (bs.map .bool) → xs = bs.map V.bl
  | [], [], _ => rfl
  | _ :: _, b :: bs, h => by
    cases h with
    | cons h1 h2 =>
      rw [Dp.bl_ h1, DpAll.bls h2]
      rfl
theorem te_all {bs : List Bool} (hc : X.calm = true) (hm : X.mg "all" = none) (ha : PE X a (tT ρ (tyD X.K (.list (bs.map .bool))))) (hg : Gl X "all" := by rfl) (hs : starEach [a] X.env = [(false, eval a X.env)] := by rfl) : PE X (.Call (.Name "all" p) [a] [] pos) (tT ρ (dB X (bs.all id))) :=
  te_b1 (cr_all hc) hm (by decide +kernel) ha (fun v H Q hv k => by
    obtain ⟨q, xs, rfl, h1, h2⟩ := Dp.lst_ hv
    rw [DpAll.bls h2] at h1
    exact ⟨q, bs, rfl, .of h1, k _ H (Gr.refl H) (Dp.bl _)⟩) hg hs
theorem te_tupleL (hm : X.mg "tuple" = none) (ha : PE X a (tT ρ (tyD X.K (.list ds)))) (hg : Gl X "tuple" := by rfl) (hs : starEach [a] X.env = [(false, eval a X.env)] := by rfl) : PE X (.Call (.Name "tuple" p) [a] [] pos) (tT ρ (tyD X.K (.tuple ds))) :=
  te_t1 (call_tupleB (isRs ds)) hm PyProof.Rows.boot_tuple ha (fun v H Q hv k => by
    obtain ⟨q, xs, rfl, h1, h2⟩ := Dp.lst_ hv
    exact ⟨q, xs, rfl, .of h1, fun l u hu hl => k _ _ (Gr.new hl) (.tup ⟨u, hu, upd_same⟩ (Gr.dpAll (Gr.new hl) _ _ h2))⟩) hg hs
theorem te_tupleT (hm : X.mg "tuple" = none) (ha : PE X a (tT ρ (tyD X.K (.tuple ds)))) (hg : Gl X "tuple" := by rfl) (hs : starEach [a] X.env = [(false, eval a X.env)] := by rfl) : PE X (.Call (.Name "tuple" p) [a] [] pos) (tT ρ (tyD X.K (.tuple ds))) :=
  te_t1 call_tuple_of hm PyProof.Rows.boot_tuple ha (fun v H Q hv k => by
    obtain ⟨q, xs, rfl, h1, h2⟩ := Dp.tup_ hv
    exact ⟨q, xs, rfl, .inr ⟨h1.sq, k _ _ (Gr.refl H) hv⟩⟩) hg hs
theorem te_listT (hm : X.mg "list" = none) (ha : PE X a (tT ρ (tyD X.K (.tuple ds)))) (hg : Gl X "list" := by rfl) (hs : starEach [a] X.env = [(false, eval a X.env)] := by rfl) : PE X (.Call (.Name "list" p) [a] [] pos) (tT ρ (tyTL X.K ds)) :=
  te_t1 call_list_of hm PyProof.Rows.boot_list ha (fun v H Q hv k => by
    obtain ⟨q, xs, rfl, h1, h2⟩ := Dp.tup_ hv
    exact ⟨q, xs, rfl, .inr h1.sq, fun l hl => k _ _ (Gr.new hl) ⟨l, _, rfl, upd_same, Gr.dpAll (Gr.new hl) _ _ h2⟩⟩) hg hs
theorem te_int1 (hm : X.mg "int" = none) (ha : PE X a (tT ρ (dI X i))) (hg : Gl X "int" := by rfl) (hs : starEach [a] X.env = [(false, eval a X.env)] := by rfl) : PE X (.Call (.Name "int" p) [a] [] pos) (tT ρ (dI X i)) :=
  te_t1 call_int1 hm PyProof.Rows.boot_int ha (fun v H Q hv k => .inl ⟨i, by rw [Dp.int_ hv], k _ H (Gr.refl H) (Dp.int _)⟩) hg hs
/-! ### items, slices -/
theorem atI_get {α : Type} {xs : List α} {i : Int} {x : α} (h : atI xs i = some x) : ∃ j : Nat, xs[j]? = some x ∧ ixN xs.length i = some j := by
  unfold atI at h
  obtain ⟨j, e, q⟩ := Option.bind_eq_some_iff.mp h
  exact ⟨j, q, e⟩
theorem DpAll.atI {K : PySem.W.Frag} {H : Hp} {xs : List V} (h : DpAll K H xs ds) (e : L2.atI ds i = some d) : ∃ v, L2.atI xs i = some v ∧ Dp K H v d := by
  obtain ⟨j, e1, e2⟩ := atI_get e
  obtain ⟨v, g1, g2⟩ := DpAll.get h e1
  exact ⟨v, by unfold L2.atI; rw [DpAll.length h, e2]; exact g1, g2⟩
theorem te_ixT (ha : PE X a (tT ρ (tyD X.K (.tuple ds)))) (hb : PE X b (tT ρ (dI X i))) (h : atI ds i = some d) (hs : PlainIx b := by exact fun _ _ => rfl) : PE X (.Subscript a b pos) (tT ρ (tyD X.K d)) :=
  te_ix ix_tup ha hb (fun x y H Q hx hy k => by
    obtain ⟨p, xs, rfl, h1, h2⟩ := Dp.tup_ hx
    obtain ⟨v, g1, g2⟩ := DpAll.atI h2 h
    exact ⟨p, xs, i, v, rfl, Dp.int_ hy, h1.sq, g1, k _ H (Gr.refl H) g2⟩) hs
theorem te_ixL (ha : PE X a (tT ρ (tyD X.K (.list ds)))) (hb : PE X b (tT ρ (dI X i))) (h : atI ds i = some d) (hs : PlainIx b := by exact fun _ _ => rfl) : PE X (.Subscript a b pos) (tT ρ (tyD X.K d)) :=
  te_ix ix_list ha hb (fun x y H Q hx hy k => by
    obtain ⟨p, xs, rfl, h1, h2⟩ := Dp.lst_ hx
    obtain ⟨v, g1, g2⟩ := DpAll.atI h2 h
    exact ⟨p, xs, i, v, rfl, Dp.int_ hy, .of h1, g1, k _ H (Gr.refl H) g2⟩) hs
theorem te_ixS {c : Nat} (ha : PE X a (tT ρ (dS X z))) (hb : PE X b (tT ρ (dI X i))) (hz : z.length ≤ 1000000) (h : atI z.cps.toList i = some c) (hs : PlainIx b := by exact fun _ _ => rfl) : PE X (.Subscript a b pos) (tT ρ (dS X ⟨#[c]⟩)) :=
  te_ix ix_str ha hb (fun x y H Q hx hy k => ⟨z, i, c, Dp.str_ hx, Dp.int_ hy, by rw [sizeLine_eq]; omega, h, k _ H (Gr.refl H) (Dp.str _)⟩) hs
theorem te_ixP (ha : PE X a (tT ρ (tyP X.K A B))) (hb : PE X b (tT ρ (dI X i))) (hi : i = 0 ∧ T = A ∨ i = 1 ∧ T = B) (hs : PlainIx b := by exact fun _ _ => rfl) : PE X (.Subscript a b pos) (tT ρ T) :=
  te_ix ix_tup ha hb (fun x y H Q hx hy k => by
    obtain ⟨p, u, v, rfl, h1, h2, h3⟩ := hx
    rcases hi with ⟨rfl, rfl⟩ | ⟨rfl, rfl⟩
    · exact ⟨p, _, 0, u, rfl, Dp.int_ hy, h1, rfl, k _ H (Gr.refl H) h2⟩
    · exact ⟨p, _, 1, v, rfl, Dp.int_ hy, h1, rfl, k _ H (Gr.refl H) h3⟩) hs
/-- a part of a list of anything -/
def cutL {α : Type} (xs : List α) (lo hi : Option Int) : List α := (xs.drop (HT.sIx xs.length 0 lo)).take (HT.sIx xs.length xs.length hi - HT.sIx xs.length 0 lo)
theorem DpAll.drop {K : PySem.W.Frag} {H : Hp} : ∀ {xs : List V} {ds : List PyData} (n : Nat), DpAll K H xs ds → DpAll K H (xs.drop n) (ds.drop n)
  | _, _, 0, h => h
  | [], [], _ + 1, h => h
  | _ :: _, _ :: _, n + 1, h => by
    cases h with
    | cons a b => exact DpAll.drop n b
theorem DpAll.take {K : PySem.W.Frag} {H : Hp} : ∀ {xs : List V} {ds : List PyData} (n : Nat), DpAll K H xs ds → DpAll K H (xs.take n) (ds.take n)
  | _, _, 0, _ => .nil
  | [], [], _ + 1, h => .nil
  | _ :: _, _ :: _, n + 1, h => by
    cases h with
    | cons a b => exact .cons a (DpAll.take n b)
theorem DpAll.cut {K : PySem.W.Frag} {H : Hp} {xs : List V} (h : DpAll K H xs ds) (lo hi : Option Int) : DpAll K H (cutV xs lo hi) (cutL ds lo hi) := by
  unfold cutV cutL
  rw [DpAll.length h]
  exact DpAll.take _ (DpAll.drop _ h)
theorem cutL_len {α : Type} (xs : List α) (lo hi : Option Int) : (cutL xs lo hi).length ≤ xs.length := by
  unfold cutL
  rw [List.length_take, List.length_drop]
  omega
variable {lo hi : Option Expr} {ol oh : Option Int} {p2 : Pos}
theorem po_weak {e : Option Expr} {t t' : TO} (h : PO X e t) (w : ∀ σ H Q, t' σ H Q → t σ H Q) : PO X e t' := ⟨fun pins s σ H Q I q => h.run pins s σ H Q I (w σ H Q q)⟩
theorem to_none : PO X none (tTO ρ none) := po_weak po_none fun σ H Q q => q.2 H (Gr.refl H)
theorem to_some (h : PE X a (tT ρ (dI X i))) : PO X (some a) (tTO ρ (some i)) := po_weak (po_some h) fun σ H Q q => ⟨q.1, fun v H1 e1 hv => ⟨i, Dp.int_ hv, q.2 H1 e1⟩⟩
theorem te_sl {r : V → Option Int → Option Int → Hp → VK → Prop} (hr : SlR X r) (ha : PE X a (tT ρ A)) (hl : PO X lo (tTO ρ ol)) (hh : PO X hi (tTO ρ oh)) (hq : ∀ x H (Q : VK), A.p H x → (∀ v H', Gr H H' → T.p H' v → Q v H') → r x ol oh H Q) : PE X (.Subscript a (.Slice lo hi none p2) pos) (tT ρ T) :=
  pe_weak (pe_slice hr ha hl hh) fun σ H Q q => ⟨q.1, fun x H1 e1 hx => ⟨q.1.mono e1, fun H2 e2 => ⟨q.1.mono (e1.trans e2), fun H3 e3 => hq x H3 Q (A.st (e2.trans e3) hx) fun v H' e' p => q.2 v H' (((e1.trans e2).trans e3).trans e') p⟩⟩⟩
theorem te_slL (ha : PE X a (tT ρ (tyD X.K (.list ds)))) (hl : PO X lo (tTO ρ ol)) (hh : PO X hi (tTO ρ oh)) : PE X (.Subscript a (.Slice lo hi none p2) pos) (tT ρ (tyTL X.K (cutL ds ol oh))) :=
  te_sl sl_list ha hl hh fun x H Q hx k => by
    obtain ⟨p, xs, rfl, h1, h2⟩ := Dp.lst_ hx
    exact ⟨p, xs, rfl, .of h1, fun q hq => k _ _ (Gr.new hq) ⟨q, _, rfl, upd_same, Gr.dpAll (Gr.new hq) _ _ (DpAll.cut h2 ol oh)⟩⟩
theorem te_slS (ha : PE X a (tT ρ (dS X z))) (hl : PO X lo (tTO ρ ol)) (hh : PO X hi (tTO ρ oh)) (hz : z.length ≤ 1000000) : PE X (.Subscript a (.Slice lo hi none p2) pos) (tT ρ (dS X ⟨(cutL z.cps.toList ol oh).toArray⟩)) :=
  te_sl sl_str ha hl hh fun x H Q hx k => ⟨z, Dp.str_ hx, by rw [sizeLine_eq]; omega, k _ H (Gr.refl H) (by
    have e : cutS z ol oh = ⟨(cutL z.cps.toList ol oh).toArray⟩ := by
      unfold cutS cutL
      have l : z.cps.toList.length = z.length := by simp [Str.length]
      rw [l]
    rw [e]
    exact Dp.str _)⟩
theorem te_slT (ha : PE X a (tT ρ (tyD X.K (.tuple ds)))) (hl : PO X lo (tTO ρ ol)) (hh : PO X hi (tTO ρ oh)) : PE X (.Subscript a (.Slice lo hi none p2) pos) (tT ρ (tyD X.K (.tuple (cutL ds ol oh)))) :=
  te_sl (sl_tupB (isRs (cutL ds ol oh))) ha hl hh fun x H Q hx k => by
    obtain ⟨p, xs, rfl, h1, h2⟩ := Dp.tup_ hx
    refine ⟨p, xs, rfl, h1.sq, fun hw => ?_, fun _ q u hu hq => k _ _ (Gr.new hq) (.tup ⟨u, hu, upd_same⟩ (Gr.dpAll (Gr.new hq) _ _ (DpAll.cut h2 ol oh)))⟩
    have e : cutL ds ol oh = ds := by
      unfold cutL
      rw [DpAll.length h2] at hw
      rw [hw.1, hw.2]
      simp
    exact k _ H (Gr.refl H) (by rw [e]; exact hx)
end
end K14
/-! KG: a run of code up to its next yield or its end, with any wish about the end; the next item of a generator. -/
namespace K14
open PySem PySem.Spec PyProof.Rows L2 GenW
open Sem (wp)

abbrev EK := End → Shared → Prop
/-- the code t, over the frames fs, comes to an end that is wanted -/
def Sg (M : Model) (A : Around) (W : EK) (c : Code) (t : Sem PySem.Fin) (fs : List Frame) (s : Shared) : Prop :=
  ∀ Γ p, Γ.code = c → Γ.Woken A → ∃ z s1, Runs M Γ p t fs s z s1 ∧ W z s1
/-- a generator's state, woken -/
def GoesX (M : Model) (A : Around) (W : EK) (gs : GenState) (s : Shared) : Prop :=
  match gs with
  | .fresh c => Sg M A W c (M.den c) [] s
  | .suspended k _ c _ fs _ => Sg M A W c (k (.send .none)) fs s
  | _ => False
section
variable {M : Model} {A : Around} {W : EK} {c : Code} {fs : List Frame} {s : Shared}
theorem sg_wrap {α : Type} {m : Sem α} {k1 : α → Sem PySem.Fin} {k2 : Value → Sem PySem.Fin} {b1 : Bool → Bool} {b2 : List Value → List Value}
    (h : wpAny M (A.over c fs) m (fun a u => Sg M A W c (k1 a) fs u) (fun x u => Sg M A W c (k2 x) fs u) s) : Sg M A W c (m.wrap k1 k2 b1 b2) fs s := by
  intro Γ p e hw
  subst e
  exact runs_wrap_of_wp k1 k2 b1 b2 m (h _ p (hw.over fs)) (fun a q u z => z Γ q rfl hw) fun x q u z => z Γ q rfl hw
theorem sg_bind {α : Type} {m : Sem α} {k1 : α → Sem PySem.Fin} (h : wpAny M (A.over c fs) m (fun a u => Sg M A W c (k1 a) fs u) (fun x u => Sg M A W c (.raise x) fs u) s) : Sg M A W c (m >>= k1) fs s :=
  (Sem.bind_eq_wrap' m k1).symm ▸ sg_wrap h
theorem sg_at {q : Pos} {k : Unit → Sem PySem.Fin} (h : Sg M A W c (k ()) fs s) : Sg M A W c (.at q k) fs s := sg_wrap (m := standAt q) (k1 := k) (k2 := .raise) (b1 := id) (b2 := id) (wpAny_standAt h)
theorem sg_point {l : List Value} {k : Unit → Sem PySem.Fin} (h : Sg M A W c (k ()) fs s) : Sg M A W c (.point l k) fs s := sg_wrap (m := point) (k1 := k) (k2 := .raise) (b1 := id) (b2 := fun _ => l) (wpAny_point h)
theorem sg_call {c2 : Code} {b1 b2 b3} {k : Result → Sem PySem.Fin} (h : ∀ p, Sg M A W c2 (M.den c2) (.ret k b1 b2 b3 c p [] :: fs) s) : Sg M A W c (.call c2 b1 b2 b3 k) fs s := by
  intro Γ p e hw
  subst e
  obtain ⟨z, u, h1, h2⟩ := h p (Γ.goto c2) p rfl (hw.goto c2)
  exact ⟨z, u, runs_call_seg h1, h2⟩
theorem sg_leaf {k b1 b2 b3 c1 p1 b4} (r : Result) (h : Sg M A W c1 (k r) fs s) : Sg M A W c (leafOf r) (.ret k b1 b2 b3 c1 p1 b4 :: fs) s := by
  intro Γ p e hw
  subst e
  obtain ⟨z, u, h1, h2⟩ := h (Γ.goto c1) p1 rfl (hw.goto c1)
  exact ⟨z, u, h1.pop r, h2⟩
theorem sg_again {c2 : Code} (q : c2.quiet = true) (h : Sg M A W c2 (M.den c2) fs s) : Sg M A W c (.pure (.again c2)) fs s := by
  intro Γ p e hw
  subst e
  obtain ⟨z, u, h1, h2⟩ := h (Γ.goto c2) p rfl (hw.goto c2)
  exact ⟨z, u, h1.head (c₁ := c2) fun _ _ x => .again q x, h2⟩
theorem sg_end (r : Result) (h : W (.ret r) s) : Sg M A W c (leafOf r) [] s := by
  intro Γ p e _
  subst e
  exact ⟨_, s, Runs.leaf r, h⟩
theorem sg_yield {v b1 l} {k : Resume → Sem PySem.Fin} (hf : splitAtGen fs = none) (h : ∀ p, W (.susp v b1 l k c p fs) s) : Sg M A W c (.yield v b1 l k) fs s := by
  intro Γ p e _
  subst e
  exact ⟨_, s, Runs.yield' fs hf, h p⟩
theorem sg_weak {W' : EK} {t : Sem PySem.Fin} (h : Sg M A W c t fs s) (w : ∀ z u, W z u → W' z u) : Sg M A W' c t fs s := fun Γ p e hw =>
  let ⟨z, u, h1, h2⟩ := h Γ p e hw
  ⟨z, u, h1, w z u h2⟩
/-! statements -/
section
variable {env : Env} {k1 : Flow → Sem PySem.Fin} {k2 : Value → Sem PySem.Fin} {b1 : Bool → Bool} {b2 : List Value → List Value}
theorem sg_nil (h : Sg M A W c (k1 .next) fs s) : Sg M A W c ((execs [] env).wrap k1 k2 b1 b2) fs s := h
theorem sg_cons {st : Stmt} {rest : List Stmt} (h : Sg M A W c ((exec st env).wrap (fun f => match f with | .next => (execs rest env).wrap k1 k2 b1 b2 | f => k1 f) k2 b1 b2) fs s) : Sg M A W c ((execs (st :: rest) env).wrap k1 k2 b1 b2) fs s :=
  (execs_cons_wrap st rest).symm ▸ h
/-- yield e -/
theorem sg_yieldS {e : Expr} {yp pos : Pos} (hf : splitAtGen fs = none) (hg : b1 false = false) (hq : fs.any Frame.guarded = false)
    (h : wpAny M (A.over c fs) (eval e env) (fun v u => ∀ l k p, (∀ W' u', Sg M A W' c (k1 .next) fs u' → Sg M A W' c (k (.send .none)) fs u') → W (.susp v false l k c p fs) u) (fun x u => Sg M A W c (k2 x) fs u) s)
    (hco : env.scope.isCoroutine = false := by rfl) (hi : interactive env = false := by rfl) : Sg M A W c ((exec (.Expr (.Yield (some e) yp) pos) env).wrap k1 k2 b1 b2) fs s := by
  rw [exec_Expr env _ pos hi rfl]
  show Sg M A W c (.at pos fun _ => ((eval e env >>= fun v => (standAt yp >>= fun _ => yieldOut env v)) >>= fun x => dropValue (.Yield (some e) yp) pos x).wrap k1 k2 b1 b2) fs s
  have hy : ∀ v, yieldOut env v = yieldValue v := fun v => by
    unfold yieldOut
    rw [hco]
    rfl
  refine sg_at ?_
  rw [Sem.bind_eq_wrap', Sem.bind_eq_wrap', Sem.wrap_wrap, Sem.wrap_wrap]
  refine sg_wrap (wpAny_mono h (fun v u z => ?_) fun _ _ x => x)
  rw [hy]
  refine sg_at ?_
  refine sg_yield (b1 := b1 false) hf fun p => ?_
  rw [hg]
  exact z _ _ p fun W' u' y => y
/-- what a loop's statement does with what comes back from its code -/
abbrev backK (env : Env) (k1 : Flow → Sem PySem.Fin) (k2 : Value → Sem PySem.Fin) (b1 : Bool → Bool) (b2 : List Value → List Value) : Result → Sem PySem.Fin :=
  fun r => ((match r with | .ok f => (.pure f : Sem Flow) | .error e => .raise e).onRaise (cameBack env)).wrap k1 k2 b1 b2
theorem sg_While {test : Expr} {body orelse : List Stmt} {pos : Pos} (h : ∀ p, Sg M A W (.whileLoop test body orelse env) (M.den (.whileLoop test body orelse env)) (.ret (backK env k1 k2 b1 b2) none (b1 false) (b2 []) c p [] :: fs) s) :
    Sg M A W c ((exec (.While test body orelse pos) env).wrap k1 k2 b1 b2) fs s := sg_at (sg_call h)
theorem sg_For {tg iter : Expr} {body orelse : List Stmt} {pos : Pos} (h : wpAny M (A.over c fs) (eval iter env) (fun x s1 => wpAny M (A.over c fs) (pyIter x) (fun it s2 =>
      ∀ p, Sg M A W (.forLoop tg it body orelse env) (M.den (.forLoop tg it body orelse env)) (.ret (backK env k1 k2 b1 b2) none (b1 false) (b2 []) c p [] :: fs) s2) (fun x u => Sg M A W c (k2 x) fs u) s1) (fun x u => Sg M A W c (k2 x) fs u) s)
    (hs : ∀ x, foldedSetIterable iter env x = pure x := by intro _; rfl) : Sg M A W c ((exec (.For tg iter body orelse pos) env).wrap k1 k2 b1 b2) fs s := by
  rw [exec_For]
  have step : ∀ {α : Type} {m : Sem α} {f : α → Sem Flow} {u : Shared}, wpAny M (A.over c fs) m (fun a u' => Sg M A W c ((f a).wrap k1 k2 b1 b2) fs u') (fun x u' => Sg M A W c (k2 x) fs u') u → Sg M A W c ((m >>= f).wrap k1 k2 b1 b2) fs u := fun {α m f u} z => by
    rw [Sem.bind_eq_wrap', Sem.wrap_wrap]
    exact sg_wrap z
  refine step (wpAny_standAt ?_)
  refine step (wpAny_mono h (fun x s1 h1 => ?_) fun _ _ z => z)
  refine step (wpAny_of_eq (hs x) ?_)
  refine step (wpAny_standAt ?_)
  refine step (wpAny_holding (wpAny_mono h1 (fun it s2 h2 => ?_) fun _ _ z => z))
  exact sg_call h2
end
end
section
variable {prog : Program} {w : World} {A : Around} {W : EK} {fs : List Frame} {s : Shared} {env : Env}
/-- an exception within a loop's code -/
abbrev offK (env : Env) : Value → Sem PySem.Fin := fun x => (do noteFrame x env; theTreesLotGoes x : Sem Unit).wrap (fun _ => .raise x) .raise id id
theorem offK_eq (env : Env) (x : Value) : ((do noteFrame x env; theTreesLotGoes x : Sem Unit).bind fun _ => (.raise x : Sem PySem.Fin)) = offK env x := Sem.bind_eq_wrap _ _
theorem sg_whileLoop {test : Expr} {body : List Stmt}
    (h : wpAny (model prog w) (A.over (.whileLoop test body [] env) fs) (isTrue test env (eval test env)) (fun b u =>
        if b = true then Sg (model prog w) A W (.whileLoop test body [] env) ((execs body env).wrap (fun f => match f with
            | .next | .cont => .pure (.again (.whileLoop test body [] env))
            | .brk => .pure (.done .next)
            | .ret v => .pure (.done (.ret v))) (offK env) id id) fs u
        else Sg (model prog w) A W (.whileLoop test body [] env) (.pure (.done .next)) fs u) (fun x u => Sg (model prog w) A W (.whileLoop test body [] env) (offK env x) fs u) s) :
    Sg (model prog w) A W (.whileLoop test body [] env) ((model prog w).den (.whileLoop test body [] env)) fs s := by
  show Sg _ A W _ ((whileTurn test body [] env).onRaise (fun x => do noteFrame x env; theTreesLotGoes x)) fs s
  unfold whileTurn
  rw [Sem.onRaise_eq_wrap, Sem.bind_eq_wrap', Sem.wrap_wrap]
  refine sg_wrap (wpAny_mono h (fun b u z => ?_) fun x u z => ?_)
  · cases b with
    | true =>
      rw [if_pos rfl] at z
      rw [if_pos rfl, Sem.bind_eq_wrap', Sem.wrap_wrap]
      refine Eq.mp (congrArg (fun t => Sg _ _ _ _ t _ _) (Sem.wrap_congr (execs body env) id id (fun f => ?_) (fun x => ?_))) z
      · cases f <;> rfl
      · exact (offK_eq env x).symm
    | false =>
      rw [if_neg Bool.false_ne_true] at z
      exact z
  · show Sg _ _ _ _ ((do noteFrame x env; theTreesLotGoes x : Sem Unit).bind fun _ => (.raise x : Sem PySem.Fin)) _ _
    rw [offK_eq]
    exact z
theorem sg_forLoop {tg : Expr} {it : Value} {body : List Stmt}
    (h : wpAny (model prog w) (A.over (.forLoop tg it body [] env) fs) (pyNext it) (fun r u => match r with
      | none => Sg (model prog w) A W (.forLoop tg it body [] env) (.pure (.again (.block [] env))) fs u
      | some v => wpAny (model prog w) (A.over (.forLoop tg it body [] env) fs) (letOwnedTupleGo tg it v) (fun _ u1 => wpAny (model prog w) (A.over (.forLoop tg it body [] env) fs) (assign tg env v) (fun _ u2 =>
          Sg (model prog w) A W (.forLoop tg it body [] env) ((execs body env).wrap (fun f => match f with
            | .next | .cont => .pure (.again (.forLoop tg it body [] env))
            | .brk => .pure (.done .next)
            | .ret v => .pure (.done (.ret v))) (offK env) id id) fs u2) (fun x u => Sg (model prog w) A W (.forLoop tg it body [] env) (offK env x) fs u) u1)
          (fun x u => Sg (model prog w) A W (.forLoop tg it body [] env) (offK env x) fs u) u) (fun x u => Sg (model prog w) A W (.forLoop tg it body [] env) (offK env x) fs u) s) :
    Sg (model prog w) A W (.forLoop tg it body [] env) ((model prog w).den (.forLoop tg it body [] env)) fs s := by
  show Sg _ A W _ ((forTurn tg it body [] env).onRaise (fun x => do noteFrame x env; theTreesLotGoes x)) fs s
  rw [Sem.onRaise_eq_wrap]
  have off : ∀ x, ((do noteFrame x env; theTreesLotGoes x : Sem Unit).bind fun _ => (.raise x : Sem PySem.Fin)) = offK env x := offK_eq env
  have kk : ∀ {α : Type} {m : Sem α} {f : α → Sem PySem.Fin} {u : Shared}, wpAny (model prog w) (A.over (.forLoop tg it body [] env) fs) m
      (fun a u' => Sg (model prog w) A W (.forLoop tg it body [] env) ((f a).wrap .pure (fun x => (do noteFrame x env; theTreesLotGoes x : Sem Unit).bind fun _ => .raise x) id id) fs u')
      (fun x u' => Sg (model prog w) A W (.forLoop tg it body [] env) (offK env x) fs u') u →
      Sg (model prog w) A W (.forLoop tg it body [] env) ((m >>= f).wrap .pure (fun x => (do noteFrame x env; theTreesLotGoes x : Sem Unit).bind fun _ => .raise x) id id) fs u := fun {α m f u} z => by
    rw [Sem.bind_eq_wrap', Sem.wrap_wrap]
    refine sg_wrap (wpAny_mono z (fun _ _ y => y) fun x u' y => ?_)
    show Sg _ _ _ _ ((do noteFrame x env; theTreesLotGoes x : Sem Unit).bind fun _ => .raise x) _ _
    rw [off]
    exact y
  unfold forTurn
  refine kk (wpAny_standAt ?_)
  refine kk (wpAny_onRaise (wpAny_mono h (fun r u z => ?_) fun x u z => wpAny_standAt z))
  cases r with
  | none => exact z
  | some v =>
    refine kk (wpAny_mono z (fun _ u1 z1 => ?_) fun _ _ y => y)
    refine kk (wpAny_mono z1 (fun _ u2 z2 => ?_) fun _ _ y => y)
    rw [Sem.bind_eq_wrap', Sem.wrap_wrap]
    refine Eq.mp (congrArg (fun t => Sg _ _ _ _ t _ _) (Sem.wrap_congr (execs body env) id id (fun f => ?_) (fun x => ?_))) z2
    · cases f <;> rfl
    · exact (off x).symm
theorem sg_block_nil (h : Sg (model prog w) A W (.block [] env) (.pure (.done .next)) fs s) : Sg (model prog w) A W (.block [] env) ((model prog w).den (.block [] env)) fs s := by
  show Sg _ A W _ (((execs [] env).onRaise (fun x => do noteFrame x env; theTreesLotGoes x)) >>= fun f => .pure (.done f)) fs s
  exact h
theorem sg_func {body : List Stmt} (h : Sg (model prog w) A W (.func body env) ((execs body env).wrap (fun f => .pure (.done (.ret (match f with | .ret v => v | _ => .none)))) (fun e => (leaving env e).wrap (fun _ => .raise e) .raise id id) id id) fs s) :
    Sg (model prog w) A W (.func body env) ((model prog w).den (.func body env)) fs s := by
  show Sg _ A W _ (.point [] fun _ => ((execs body env).onRaise (leaving env)) >>= _) fs s
  refine sg_point ?_
  rw [Sem.onRaise_eq_wrap, Sem.bind_eq_wrap', Sem.wrap_wrap]
  refine Eq.mp (congrArg (fun t => Sg _ _ _ _ t _ _) (Sem.wrap_congr (execs body env) id id (fun f => ?_) (fun x => ?_))) h
  · cases f <;> rfl
  · rw [Sem.bind_eq_wrap, Sem.wrap_wrap]
    rfl
end

/-! ### waking -/
theorem wake_resume {M : Model} {A : Around} {W : EK} {E : Value → Shared → Prop} {s : Shared} {g : Nat} {gs : GenState} {l : List Value} {α : Type} {k : GenResult → Sem α} {Q : α → Shared → Prop} (hg : s.gens[g]? = some gs) (hgo : GoesX M A W gs (s.setGen g .running))
    (hq : ∀ z s1, W z s1 → z.quiet = true) (hk : ∀ z s1, W z s1 → wpAny M A (k z.result) Q E (s1.setGen g z.genState)) : wpAny M A (.resume g (.send .none) l k) Q E s := by
  intro Γ p hΓ
  rw [Sem.wp_resume]
  unfold Wakes
  rw [hg]
  cases gs with
  | running => exact hgo.elim
  | finished => exact hgo.elim
  | fresh c =>
    obtain ⟨z, u, h1, h2⟩ := hgo (Γ.wake c p) p rfl (hΓ.wake c p)
    exact ⟨_, _, ⟨z, u, h1, hq z u h2, rfl, rfl⟩, hk z u h2 Γ p hΓ⟩
  | suspended k0 l0 c0 p0 f0 cl =>
    obtain ⟨z, u, h1, h2⟩ := hgo (Γ.wake c0 p) p0 rfl (hΓ.wake c0 p)
    exact ⟨_, _, ⟨z, u, h1, hq z u h2, rfl, rfl⟩, hk z u h2 Γ p hΓ⟩
/-- next of a generator: it hands out an item, or it ends -/
theorem wake_next {P : Program} {w : World} {A : Around} {W : EK} {E : Value → Shared → Prop} {s : Shared} {a : Addr} {g : Nat} {gs : GenState} {Q : Option Value → Shared → Prop} (hh : A.handled = none) (hl : s.heap.NoLimit) (hroom : A.depth < recursionLimit) (hg : s.heap.IsGen a g)
    (hgs : s.gens[g]? = some gs) (hgo : GoesX (model P w) A.in1 W gs (s.setGen g .running))
    (hq : ∀ z s1, W z s1 → z.quiet = true)
    (hY : ∀ v b l k c p fs s1, W (.susp v b l k c p fs) s1 → Q (some v) (s1.setGen g (End.susp v b l k c p fs).genState))
    (hR : ∀ r s1, W (.ret r) s1 → (r = .ok (.ret .none) ∨ r = .ok .next) ∧ ∀ h', (∀ b o, s1.heap.get? b = some o → h'.get? b = some o) → Q none { s1.setGen g .finished with heap := h' }) :
    wpAny (model P w) A (pyNext (.ref a)) Q E s := by
  unfold pyNext
  refine wpAny_bind (wpAny_attempt (wpAny_callSpecial?_slot (name := Str.ofString "__next__") hg.typeIs slot_gen_next (wpAny_call_entry slot_gen_next hg.typeIs entry_gen_next ?_ (args_gen_next _))))
  show wpAny _ A.in1 (Builtin.Generator.genWake (.ref a) (.send .none)) _ _ s
  unfold Builtin.Generator.genWake
  refine wpAny_bind (wpAny_holding (wpAny_genNumber hg (wpAny_bind (wpAny_genState hgs ?_))))
  cases gs with
  | running => exact hgo.elim
  | finished => exact hgo.elim
  | _ =>
    refine wpAny_bind (wpAny_roomToWake hl hroom ?_)
    show wpAny _ A.in1 (.resume g (.send .none) [] _) _ _ s
    refine wake_resume hgs hgo hq fun z s1 hz => ?_
    cases z with
    | susp v b l k c p fs => exact wpAny_pure ⟨v, rfl, wpAny_pure (hY v b l k c p fs s1 hz)⟩
    | ret r =>
      obtain ⟨hr, hp⟩ := hR r s1 hz
      have hres : (End.ret r).result = .returned .none := by
        rcases hr with e | e <;> rw [e] <;> rfl
      rw [hres]
      show wpAny _ A.in1 (newExc (.type "StopIteration") [] >>= _) _ _ _
      refine wpAny_bind ?_
      simp only [newExc, newTuple]
      refine wpAny_bind (wpAny_newObj_type ?_ (by size_fits))
      refine wpAny_bind (m := firstArgMember _ _) (wpAny_of_eq (a := Value.none) (by first | rfl | (simp only [firstArgMember]; rfl)) ?_)
      refine wpAny_newObj_type ?_ (by size_fits)
      simp only [raiseNew]
      refine wpAny_bind (wpAny_bind (wpAny_handled ?_))
      rw [hh]
      refine wpAny_throw ?_
      refine wpAny_bind (wpAny_isInstance (T := "StopIteration") (b := true) ⟨_, Heap.get?_push_size _ rfl, rfl⟩ isSubtype_stop ?_)
      exact wpAny_pure (hp _ fun b o z => Heap.get?_push_of_some _ (Heap.get?_push_of_some _ z))
end K14
/-! KH: a generator def's frame; it sleeps and wakes. -/
namespace K14
open PySem PySem.Spec PyProof.Rows L2 GenW

/-! ### the objects below L -/
def cutH (n : Nat) (h : Heap) : Heap := { h with objs := h.objs.take n }
theorem cutH_size (n : Nat) (h : Heap) : (cutH n h).objs.size = min n h.objs.size := by
  show (h.objs.take n).size = _
  simp
theorem take_get {α : Type} (xs : Array α) (n b : Nat) (hb : b < n) : (xs.take n)[b]? = xs[b]? := by
  rw [Array.take_eq_extract, Array.getElem?_extract]
  simp only [Nat.zero_add, Nat.sub_zero]
  by_cases hq : b < xs.size
  · rw [if_pos (by omega)]
  · rw [if_neg (by omega)]
    exact (Array.getElem?_eq_none_iff.mpr (by omega)).symm
theorem cutH_get {n : Nat} {h : Heap} {b : Addr} (hb : b < n) : (cutH n h).get? b = h.get? b := by
  unfold Heap.get?
  have e : (cutH n h).objs[b]? = h.objs[b]? := take_get h.objs n b hb
  rw [e]
theorem cutH_le {n : Nat} {h : Heap} {b : Addr} {o : Obj} (e : (cutH n h).get? b = some o) : b < n ∧ h.get? b = some o := by
  have hb : b < n := by
    have := Heap.lt_size e
    rw [cutH_size] at this
    exact Nat.lt_of_lt_of_le this (Nat.min_le_left _ _)
  exact ⟨hb, by rw [← cutH_get hb]; exact e⟩
theorem cutH_funs {n : Nat} {h base : Heap} : ∀ {l : List Env}, h.FunFrames base l → (∀ b ∈ frs l, b < n) → (cutH n h).FunFrames base l
  | [], _, _ => trivial
  | env :: r, hl, hb => by
    obtain ⟨h1, ⟨L, o, hf, h2, h3, h4⟩, h5⟩ := hl
    have e : frs (env :: r) = L :: frs r := by
      unfold frs
      rw [List.filterMap_cons, hf]
    rw [e] at hb
    exact ⟨h1, ⟨L, o, hf, h2, by rw [cutH_get (hb L List.mem_cons_self)]; exact h3, h4⟩, cutH_funs h5 fun b m => hb b (List.mem_cons_of_mem _ m)⟩

/-- a generator def's frame -/
structure GF where
  P : Program
  w : World
  K : PySem.W.Frag
  mg : Str → Option Value
  base : Heap
  N : List Str
  qual : Str
  scope : Scope
  f : Addr
  cd : Value
  A : Around
  outer : List Env
  L : Addr
  Pa : List Addr
  ban : List Addr
  g : Nat
abbrev GF.env (F : GF) : Env := envOfC F.qual F.scope F.L F.f F.cd
/-- woken at s with the abstract heap H -/
def GF.cx (F : GF) (s : Shared) (H : Hp) : Cx where
  prog := F.P
  w := F.w
  K := F.K
  mg := F.mg
  base := F.base
  A := F.A.deeper F.env
  N := F.N
  s_0 := { s with heap := cutH F.L s.heap }
  H_0 := H
  env := F.env
  outer := F.outer
  stack := F.env :: F.outer
  ex := []
  calm := true
  fn := fun _ => true
  pn := pinsAt F.Pa s.heap
  xe := fun _ _ => False
theorem mem_pinsAt' {fp : List Addr} {h : Heap} {b : Addr} {o : Obj} (hb : b ∈ fp) (e : h.get? b = some o) : (b, o) ∈ pinsAt fp h := mem_pinsAt hb e
def NoCell (o : Obj) : Prop := ∀ v, o.data ≠ .cell v
/-- what holds of b stays while the generator sleeps -/
structure Slp (F : GF) (kp : List Addr) (gk : List Nat) (s1 : Shared) (H1 H2 : Hp) (s2 : Shared) : Prop where
  os : s2.os = s1.os
  bare : AllBare s2.gens
  bs : ∀ b o, F.base.get? b = some o → s2.heap.get? b = some o ∧ H2 b = none
  funs : s2.heap.FunFrames F.base F.outer
  frf : ∀ b ∈ frs F.outer, H2 b = none
  hok : HOk F.P F.w H2 s2.heap
  gr : Gr H1 H2
  kp : ∀ b ∈ kp, s2.heap.get? b = s1.heap.get? b ∧ H2 b = none
  gk : ∀ j ∈ gk, s2.gens[j]? = s1.gens[j]?
  ban : ∀ b ∈ F.ban, H2 b = none ∧ ∃ o, s2.heap.get? b = some o ∧ NoCell o
  g : F.g < s2.gens.size
/-- from its waking at (H, s) to its sleep or its end at (H1, s1) -/
structure Yld (F : GF) (H : Hp) (s : Shared) (H1 : Hp) (s1 : Shared) : Prop where
  os : s1.os = s.os
  bare : AllBare s1.gens
  un : Un (frs F.outer) [] H H1 (cutH F.L s.heap) s1.heap
  hok : HOk F.P F.w H1 s1.heap
  gr : Gr H H1
  fL : H1 F.L = none
  oL : ∃ o, s1.heap.get? F.L = some o ∧ NoCell o
  pa : ∀ b ∈ F.Pa, s1.heap.get? b = s.heap.get? b ∧ H1 b = none
  g : F.g < s1.gens.size
structure Kps (F : GF) (s1 : Shared) (H1 : Hp) (kp : List Addr) (gk : List Nat) : Prop where
  kp : ∀ b ∈ kp, H1 b = none ∧ (∃ o, s1.heap.get? b = some o ∧ NoCell o) ∧ b ∉ frs F.outer ∧ b ∉ F.ban ∧ F.L ≤ b
  gk : ∀ j ∈ gk, F.g < j ∧ j < s1.gens.size
/-- m items are still to come, of the types it (m - 1) .. it 0 -/
def inW (F : GF) (it : Nat → Ty) : Nat → Hp → Shared → EK
  | 0, H, s => fun z s1 => match z with
    | .ret r => r = .ok (.ret .none) ∧ ∃ H1, Yld F H s H1 s1
    | .susp .. => False
  | m + 1, H, s => fun z s1 => match z with
    | .susp v b _ k c _ fs => b = false ∧ fs.any Frame.guarded = false ∧ ∃ x H1 kp gk, RelV x v ∧ (it m).p H1 x ∧ Yld F H s H1 s1 ∧ Kps F s1 H1 kp gk ∧
        ∀ H2 s2, Slp F kp gk s1 H1 H2 s2 → Sg (model F.P F.w) F.A (inW F it m H2 s2) c (k (.send .none)) fs s2
    | .ret _ => False
theorem inW_quiet {F : GF} {it : Nat → Ty} {m : Nat} {H : Hp} {s : Shared} {z : End} {s1 : Shared} (h : inW F it m H s z s1) : z.quiet = true := by
  cases m with
  | zero =>
    cases z with
    | ret r => rfl
    | susp => exact h.elim
  | succ m =>
    cases z with
    | ret r => exact h.elim
    | susp v b l k c p fs =>
      obtain ⟨h1, h2, _⟩ := h
      show (!(b || fs.any Frame.guarded)) = true
      rw [h1, h2]
      rfl

section
variable {F : GF} {pins : List (Addr × Obj)} {σ : L2.St} {H H1 H2 : Hp} {s s1 s2 : Shared} {kp : List Addr} {gk : List Nat} {ρ : Rho}
theorem cx_below (I : Inv (F.cx s H) pins σ H1 s1) : ∀ b ∈ frs F.outer, b < F.L := fun b hb => by
  obtain ⟨_, o, ho, _⟩ := I.ok.funs.mem hb
  exact (cutH_le ho).1
/-- woken: the frame as it lay -/
theorem inv_woke (I : Inv (F.cx s H) pins σ H1 s1) (nc : F.env.cells = []) (S : Slp F kp gk s1 H1 H2 s2) (hL : F.L ∈ kp) (hp : ∀ p ∈ pins, p.1 ∈ kp) (ha : ∀ b ∈ F.Pa, b ∉ F.ban → b ∈ kp)
    (he : ∀ b ∈ F.Pa, ∃ o, s.heap.get? b = some o) (hb : ∀ b ∈ F.ban, b ≠ F.L ∧ b ∉ frs F.outer) (hw : EnvT H1 σ ρ) : Inv (F.cx s2 H2) pins σ H2 s2 ∧ EnvT H2 σ ρ := by
  have k := I.ok
  have cn : ∀ x c, (F.cx s2 H2).env.cells.lookup x = some c → False := fun x c e => by
    have e2 : F.env.cells.lookup x = some c := e
    rw [nc] at e2
    cases e2
  obtain ⟨m, hn, hl⟩ := I.loc
  obtain ⟨oL, es, ep, hoL, hdL⟩ := hn
  have eL : s2.heap.get? F.L = some oL := (S.kp F.L hL).1.trans hoL
  have hLs : F.L < s2.heap.objs.size := Heap.lt_size eL
  have bL : F.base.objs.size ≤ F.L := by
    have := k.bsz
    have e : (F.cx s H).s_0.heap.objs.size = min F.L s.heap.objs.size := cutH_size _ _
    rw [e] at this
    exact Nat.le_trans this (Nat.min_le_left _ _)
  have sz : (cutH F.L s2.heap).objs.size = F.L := by
    rw [cutH_size]
    exact Nat.min_eq_left (Nat.le_of_lt hLs)
  refine ⟨⟨⟨k.mod, k.kind, rfl, rfl, ?_, k.inj, k.has, fun x c _ e => (cn x c e).elim, k.hd, k.frames, .inr ⟨rfl, rfl⟩, fun b z => (by cases z), fun b o e => ?_, ?_, fun b o _ z => (by cases z), fun b z => (by cases z), ?_, S.frf⟩,
    rfl, S.bare, Un.kept fun b o e => (cutH_le e).2, ⟨m, ⟨oL, es, ep, eL, hdL⟩, fun i x v h1 h2 h3 => ?_⟩, fun x c e => (cn x c e).elim, (S.kp F.L hL).2, fun x c e => (cn x c e).elim, fun p hp' => ?_, S.hok, I.len⟩, hw.mono S.gr⟩
  · show (cutH F.L s2.heap).objs.size ≤ F.L
    exact Nat.le_of_eq sz
  · obtain ⟨h1, h2⟩ := S.bs b o e
    exact ⟨by show (cutH F.L s2.heap).get? b = some o; rw [cutH_get (Nat.lt_of_lt_of_le (Heap.lt_size e) bL)]; exact h1, h2⟩
  · show F.base.objs.size ≤ (cutH F.L s2.heap).objs.size
    rw [sz]
    exact bL
  · exact cutH_funs S.funs (cx_below I)
  · obtain ⟨u, r, l⟩ := hl i x v h1 h2 h3
    refine ⟨u, r, ?_⟩
    rcases l with l | ⟨_, c, e, _⟩
    · exact .inl l
    · exact (cn x c e).elim
  · rcases List.mem_append.mp hp' with q | q
    · obtain ⟨q1, q2⟩ := pinsAt_mem q
      by_cases hban : p.1 ∈ F.ban
      · obtain ⟨b1, o, b2, b3⟩ := S.ban p.1 hban
        rw [q2] at b2
        cases b2
        exact ⟨q2, b1, (hb p.1 hban).1, (hb p.1 hban).2, b3⟩
      · have hk := ha p.1 q1 hban
        obtain ⟨o, ho⟩ := he p.1 q1
        obtain ⟨g1, g2, g3, g4, g5⟩ := I.pin (p.1, o) (List.mem_append_left _ (mem_pinsAt q1 ho))
        have g1 : s1.heap.get? p.1 = some o := g1
        have e := (S.kp p.1 hk).1
        rw [q2, g1] at e
        have e2 : p.2 = o := Option.some.inj e
        exact ⟨q2, (S.kp p.1 hk).2, g3, g4, fun v z => g5 v (e2 ▸ z)⟩
    · obtain ⟨g1, g2, g3, g4, g5⟩ := I.pin p (List.mem_append_right _ q)
      have hk := hp p q
      exact ⟨(S.kp p.1 hk).1.trans g1, (S.kp p.1 hk).2, g3, g4, g5⟩
theorem yld_of (I : Inv (F.cx s H) pins σ H1 s1) (g : Gr H H1) (he : ∀ b ∈ F.Pa, ∃ o, s.heap.get? b = some o) (hg : F.g < s1.gens.size) : Yld F H s H1 s1 := by
  obtain ⟨m, ⟨oL, es, ep, hoL, hdL, _⟩, _⟩ := id I.loc
  have st : (F.cx s H).stack = F.env :: F.outer := rfl
  refine ⟨I.os, I.bare, I.base, I.hok, g, I.free, ⟨oL, hoL, fun v e => ?_⟩, fun b hb => ?_, hg⟩
  · rw [hdL] at e
    cases e
  · obtain ⟨o, ho⟩ := he b hb
    obtain ⟨g1, g2, _⟩ := I.pin (b, o) (List.mem_append_left _ (mem_pinsAt hb ho))
    exact ⟨(show s1.heap.get? b = some o from g1).trans ho.symm, g2⟩
/-- the one that wakes it: its own frame stands as before -/
theorem inv_fed {X : Cx} (hx : X.ex = []) (I : Inv X pins σ H s) (hP : X.prog = F.P) (hW : X.w = F.w) (hS : X.stack = F.outer) (hL : X.env.locals < F.L) (hC : ∀ x c, X.env.cells.lookup x = some c → c < F.L) (hp : ∀ p ∈ X.pn ++ pins, p.1 < F.L ∨ p.1 ∈ F.Pa) (Y : Yld F H s H1 s1) : Inv X pins σ H1 s1 := by
  have u := Y.un
  rw [← hS] at u
  have neL : ∀ b o, X.s_0.heap.get? b = some o → b ≠ X.env.locals := fun b o e => Nat.ne_of_lt (Nat.lt_of_lt_of_le (Heap.lt_size e) I.ok.above)
  have ltL : ∀ b o, X.s_0.heap.get? b = some o → b < F.L := fun b o e => Nat.lt_trans (Nat.lt_of_lt_of_le (Heap.lt_size e) I.ok.above) hL
  have nox : ∀ b, b ∉ X.ex := fun b z => by
    rw [hx] at z
    cases z
  have nos : ∀ b, b ≠ X.env.locals → b ∉ X.fs → b ∉ frs X.stack := fun b h1 h2 z => by
    rcases List.mem_cons.mp (I.stkSub b z) with q | q
    · exact h1 q
    · exact h2 q
  have any : ∀ b o, b < F.L → s.heap.get? b = some o → H b = none → ∃ sl, s1.heap.get? b = some { o with slots := sl } := fun b o hb e n => u.any (by rw [cutH_get hb]; exact e) n (by simp)
  obtain ⟨m, ⟨oL, es, ep, hoL, hdL⟩, hl⟩ := I.loc
  obtain ⟨slL, eL⟩ := any _ _ hL hoL I.free
  have cellK : ∀ x c, X.env.cells.lookup x = some c → ∀ v, s.heap.IsCell c v → s1.heap.IsCell c v := fun x c e v ⟨o, ho, hd⟩ => by
    obtain ⟨sl, q⟩ := any c o (hC x c e) ho (I.freeC x c e)
    exact ⟨_, q, hd⟩
  have hk := Y.hok
  rw [← hP, ← hW] at hk
  refine ⟨I.ok, Y.os.trans I.os, Y.bare, ⟨fun b o e n hb he => ?_, fun b o e n hb he => ?_, fun b o e n he => ?_, fun b o e he => ?_, fun b xs e => u.tups b xs (I.base.tups b xs e), fun b o xs e => u.frzs b o xs (I.base.frzs b o xs e), fun b ps e => ?_⟩,
    ⟨m, ⟨_, es, ep, eL, hdL⟩, fun i x v e1 e2 e3 => ?_⟩, fun x c e => ?_, ?_, fun x c e => ?_, fun p hp' => ?_, hk, I.len⟩
  · exact u.keep b o (by rw [cutH_get (ltL b o e)]; exact I.base.keep b o e n hb he) (I.base.free b o e n he) (nos b (neL b o e) hb) (by simp)
  · obtain ⟨sl, e1⟩ := I.base.slot b o e n hb he
    obtain ⟨sl2, e2⟩ := any b _ (ltL b o e) e1 (I.base.free b o e n he)
    exact ⟨sl2, e2⟩
  · obtain ⟨o', e1⟩ := I.base.there b o e he
    exact u.free b o' (by rw [cutH_get (ltL b o e)]; exact e1) (I.base.free b o e n he) (by simp)
  · obtain ⟨o', e1⟩ := I.base.there b o e he
    exact u.there b o' (by rw [cutH_get (ltL b o e)]; exact e1) (by simp)
  · obtain ⟨m1, e1⟩ := I.base.tbls b ps e
    obtain ⟨m2, e2⟩ := u.tbls b _ e1
    exact ⟨m1 ++ m2, by rw [e2, Array.append_assoc]⟩
  · obtain ⟨w', r, l⟩ := hl i x v e1 e2 e3
    refine ⟨w', r, ?_⟩
    rcases l with l | ⟨k, c, e, z⟩
    · exact .inl l
    · exact .inr ⟨k, c, e, cellK x c e _ z⟩
  · obtain ⟨v, z⟩ := I.cell x c e
    exact ⟨v, cellK x c e v z⟩
  · exact u.free _ oL (by rw [cutH_get hL]; exact hoL) I.free (by simp)
  · obtain ⟨v, o, ho, hd⟩ := I.cell x c e
    exact u.free c o (by rw [cutH_get (hC x c e)]; exact ho) (I.freeC x c e) (by simp)
  · obtain ⟨e, n, ne, nf, d⟩ := I.pin p hp'
    rcases hp p hp' with q | q
    · exact ⟨u.keep p.1 p.2 (by rw [cutH_get q]; exact e) n (nos p.1 ne nf) (by simp), u.free p.1 p.2 (by rw [cutH_get q]; exact e) n (by simp), ne, nf, d⟩
    · obtain ⟨a1, a2⟩ := Y.pa p.1 q
      exact ⟨a1.trans e, a2, ne, nf, d⟩
end

/-! ### statements of a generator -/
structure GCo (F : GF) (c : Code) (fs : List Frame) (b1 : Bool → Bool) : Prop where
  over : F.A.over c fs = F.A.deeper F.env
  split : splitAtGen fs = none
  guard : fs.any Frame.guarded = false
  gd : b1 false = false
structure GOk (F : GF) : Prop where
  nc : F.env.cells = []
  banPa : ∀ b ∈ F.ban, b ∈ F.Pa
  banL : ∀ b ∈ F.ban, b ≠ F.L ∧ b ∉ frs F.outer
  paL : ∀ b ∈ F.Pa, F.L ≤ b
structure Cur (F : GF) (H : Hp) (s : Shared) (σ : L2.St) (H1 : Hp) (s1 : Shared) : Prop where
  inv : Inv (F.cx s H) [] σ H1 s1
  gr : Gr H H1
  pa : ∀ b ∈ F.Pa, ∃ o, s.heap.get? b = some o
  g : F.g < s1.gens.size
theorem Cur.yld {F : GF} {H H1 : Hp} {s s1 : Shared} {σ : L2.St} (C : Cur F H s σ H1 s1) : Yld F H s H1 s1 := yld_of C.inv C.gr C.pa C.g
structure GSt (F : GF) (it : Nat → Ty) (st : Stmt) (m : Nat) (ρ : Rho) (nx : Nat → Rho → Prop) : Prop where
  run : ∀ c fs k1 k2 b1 b2 H s σ H1 s1, GCo F c fs b1 → Cur F H s σ H1 s1 → EnvT H1 σ ρ →
    (∀ m' ρ' H' s' σ' H1' s1', nx m' ρ' → Cur F H' s' σ' H1' s1' → EnvT H1' σ' ρ' → Sg (model F.P F.w) F.A (inW F it m' H' s') c (k1 .next) fs s1') →
    Sg (model F.P F.w) F.A (inW F it m H s) c ((exec st F.env).wrap k1 k2 b1 b2) fs s1
structure GSts (F : GF) (it : Nat → Ty) (st : List Stmt) (m : Nat) (ρ : Rho) (nx : Nat → Rho → Prop) : Prop where
  run : ∀ c fs k1 k2 b1 b2 H s σ H1 s1, GCo F c fs b1 → Cur F H s σ H1 s1 → EnvT H1 σ ρ →
    (∀ m' ρ' H' s' σ' H1' s1', nx m' ρ' → Cur F H' s' σ' H1' s1' → EnvT H1' σ' ρ' → Sg (model F.P F.w) F.A (inW F it m' H' s') c (k1 .next) fs s1') →
    Sg (model F.P F.w) F.A (inW F it m H s) c ((execs st F.env).wrap k1 k2 b1 b2) fs s1
def tyNo : Ty := ⟨fun _ _ => False, fun _ h => h⟩
section
variable {F : GF} {it : Nat → Ty} {st : Stmt} {rest : List Stmt} {m : Nat} {ρ : Rho} {nx : Nat → Rho → Prop}
theorem gs_nil (h : nx m ρ) : GSts F it [] m ρ nx := ⟨fun c fs k1 k2 b1 b2 H s σ H1 s1 g C hE k => sg_nil (k m ρ H s σ H1 s1 h C hE)⟩
theorem gs_cons (h : GSt F it st m ρ fun m' ρ' => GSts F it rest m' ρ' nx) : GSts F it (st :: rest) m ρ nx := ⟨fun c fs k1 k2 b1 b2 H s σ H1 s1 g C hE k => by
  refine sg_cons ?_
  exact h.run c fs _ k2 b1 b2 H s σ H1 s1 g C hE fun m' ρ' H' s' σ' H1' s1' z C' hE' => z.run c fs k1 k2 b1 b2 H' s' σ' H1' s1' g C' hE' k⟩
/-- a statement that hands out nothing -/
theorem gs_plain (h : ∀ s H, PS (F.cx s H) st (tS ρ { nx := nx m, rt := tyNo })) : GSt F it st m ρ nx := ⟨fun c fs k1 k2 b1 b2 H s σ H1 s1 g C hE k => by
  refine sg_wrap ?_
  rw [g.over]
  let D : Ends := { nx := fun σ' H' => ∃ ρ', nx m ρ' ∧ EnvT H' σ' ρ' ∧ Gr H1 H', rt := fun _ _ => False }
  have hD : tS ρ { nx := nx m, rt := tyNo } D σ H1 := ⟨hE, fun ρ' σ' H' a b c => ⟨ρ', a, b, c⟩, fun v H' c a => a.elim, fun ρ' σ' H' a b c => a.elim, fun ρ' σ' H' a b c => a.elim⟩
  refine wpAny_gsz (n := F.g + 1) C.g (wpAny_mono ((h s H).run [] s1 σ H1 D C.inv hD) (fun f u hf hz => ?_) fun x u hx => ?_)
  · cases f with
    | next =>
      obtain ⟨σ', H', I', ρ', z1, z2, z3⟩ := hf
      exact k m ρ' H s σ' H' u z1 ⟨I', C.gr.trans z3, C.pa, hz⟩ z2
    | brk => obtain ⟨_, _, _, z⟩ := hf; exact z.elim
    | cont => obtain ⟨_, _, _, z⟩ := hf; exact z.elim
    | ret u => obtain ⟨_, _, _, _, _, z⟩ := hf; exact z.elim
  · exact False.elim hx⟩
/-- yield e -/
theorem gs_yield {e : Expr} {yp pos : Pos} {T : Ty} (ok : GOk F) (h : ∀ s H, PE (F.cx s H) e (tT ρ T)) (l : T.le (it m)) (hn : nx m ρ) (hco : F.scope.isCoroutine = false := by rfl) (hi : interactive F.env = false := by rfl) : GSt F it (.Expr (.Yield (some e) yp) pos) (m + 1) ρ nx :=
  ⟨fun c fs k1 k2 b1 b2 H s σ H1 s1 g C hE k => by
  refine sg_yieldS g.split g.gd g.guard ?_ hco hi
  rw [g.over]
  refine wpAny_gsz (n := F.g + 1) C.g (wpAny_mono ((h s H).run [] s1 σ H1 (fun v H' => Gr H1 H' ∧ T.p H' v) C.inv ⟨hE, fun v H' a b => ⟨a, b⟩⟩) (fun v u hv hz => ?_) fun x u hx => False.elim hx)
  obtain ⟨x, H2, I2, rv, gr, hx⟩ := hv
  have C2 : Cur F H s σ H2 u := ⟨I2, C.gr.trans gr, C.pa, hz⟩
  intro l0 kk p hkk
  have Y := C2.yld
  refine ⟨rfl, g.guard, x, H2, F.L :: F.Pa.filter (fun b => decide (b ∉ F.ban)), [], rv, l H2 x hx, Y, ⟨fun b hb => ?_, fun j hj => by cases hj⟩, fun H3 s3 S => hkk _ _ ?_⟩
  · rcases List.mem_cons.mp hb with e | hb
    · subst e
      exact ⟨Y.fL, Y.oL, fun z => Nat.lt_irrefl _ (cx_below I2 _ z), fun z => (ok.banL _ z).1 rfl, Nat.le_refl _⟩
    · obtain ⟨hb1, hb2⟩ := List.mem_filter.mp hb
      obtain ⟨o, ho⟩ := C.pa b hb1
      obtain ⟨q1, q2, q3, q4, q5⟩ := I2.pin (b, o) (List.mem_append_left _ (mem_pinsAt hb1 ho))
      exact ⟨q2, ⟨o, q1, q5⟩, q4, of_decide_eq_true hb2, ok.paL b hb1⟩
  · obtain ⟨I3, E3⟩ := inv_woke I2 ok.nc S List.mem_cons_self (fun p hp => by cases hp) (fun b hb hn => List.mem_cons_of_mem _ (List.mem_filter.mpr ⟨hb, decide_eq_true hn⟩)) C.pa ok.banL (hE.mono gr)
    refine k m ρ H3 s3 σ H3 s3 hn ⟨I3, Gr.refl _, fun b hb => ?_, S.g⟩ E3
    by_cases q : b ∈ F.ban
    · obtain ⟨_, o, ho, _⟩ := S.ban b q
      exact ⟨o, ho⟩
    · obtain ⟨o, ho⟩ := C.pa b hb
      obtain ⟨q1, _⟩ := I2.pin (b, o) (List.mem_append_left _ (mem_pinsAt hb ho))
      exact ⟨o, (S.kp b (List.mem_cons_of_mem _ (List.mem_filter.mpr ⟨hb, decide_eq_true q⟩))).1.trans q1⟩⟩
/-- while t: each turn hands out something -/
theorem gs_while {t : Expr} {body : List Stmt} {pos : Pos} (J : Nat → Rho → Prop) (h0 : J m ρ) (hj : ∀ m ρ, J m ρ → ∃ b : Bool, (∀ s H, PT (F.cx s H) t (tTB ρ b)) ∧ if b = true then GSts F it body m ρ (fun m' ρ' => m' < m ∧ J m' ρ') else nx m ρ) : GSt F it (.While t body [] pos) m ρ nx :=
  ⟨fun c fs k1 k2 b1 b2 H s σ H1 s1 g C hE k => by
  refine sg_While fun p => ?_
  have gl : GCo F (.whileLoop t body [] F.env) (.ret (backK F.env k1 k2 b1 b2) none (b1 false) (b2 []) c p [] :: fs) id := by
    refine ⟨(over_loop rfl rfl).trans g.over, ?_, ?_, rfl⟩
    · show (splitAtGen fs).map _ = none
      rw [g.split]
      rfl
    · show (b1 false || fs.any Frame.guarded) = false
      rw [g.gd, g.guard]
      rfl
  have loop : ∀ (m : Nat) (ρ : Rho) (H : Hp) (s : Shared) (σ : L2.St) (H1 : Hp) (s1 : Shared), J m ρ → Cur F H s σ H1 s1 → EnvT H1 σ ρ → Sg (model F.P F.w) F.A (inW F it m H s) (.whileLoop t body [] F.env) ((model F.P F.w).den (.whileLoop t body [] F.env))
      (.ret (backK F.env k1 k2 b1 b2) none (b1 false) (b2 []) c p [] :: fs) s1 := by
    intro m
    induction m using Nat.strongRecOn with
    | ind m ih =>
      intro ρ H s σ H1 s1 hJ C hE
      obtain ⟨b, ht, hb⟩ := hj m ρ hJ
      refine sg_whileLoop ?_
      rw [gl.over]
      refine wpAny_gsz (n := F.g + 1) C.g (wpAny_mono ((ht s H).run [] s1 σ H1 (fun b' H' => Gr H1 H' ∧ b' = b) C.inv ⟨hE, fun H' a => ⟨a, rfl⟩⟩) (fun b' u hv hz => ?_) fun x u hx => False.elim hx)
      obtain ⟨H2, I2, gr, e⟩ := hv
      subst e
      have C2 : Cur F H s σ H2 u := ⟨I2, C.gr.trans gr, C.pa, hz⟩
      cases b' with
      | true =>
        rw [if_pos rfl]
        rw [if_pos rfl] at hb
        refine hb.run _ _ _ _ id id H s σ H2 u gl C2 (hE.mono gr) fun m' ρ' H' s' σ' H1' s1' hJ' C' hE' => ?_
        exact sg_again rfl (ih m' hJ'.1 ρ' H' s' σ' H1' s1' hJ'.2 C' hE')
      | false =>
        rw [if_neg Bool.false_ne_true]
        rw [if_neg Bool.false_ne_true] at hb
        exact sg_leaf (.ok .next) (k m ρ H s σ H2 u hb C2 (hE.mono gr))
  exact loop m ρ H s σ H1 s1 h0 C hE⟩
end
end K14
/-! KI: generator defs, their making; for over a generator within a generator; list of a generator. -/
namespace K14
open PySem PySem.Spec PyProof.Rows L2 GenW

/-- the frame's first state, wherever it is woken -/
theorem inv_born {F : GF} {X0 : Cx} {σ : L2.St} {H H2 : Hp} {s1 s2 : Shared} {a : Addr} (I : Inv X0 [] σ H s1) (eenv : X0.env = F.env) (eN : X0.N = F.N) (eK : X0.K = F.K) (emg : X0.mg = F.mg) (ebase : X0.base = F.base) (esz : X0.s_0.heap.objs.size = F.L) (eout : X0.outer = F.outer)
    (hd : F.A.handled = none) (fr : F.A.frames = some F.outer) (nc : F.env.cells = []) {kp : List Addr} {gk : List Nat} (S : Slp F kp gk s1 H H2 s2) (hL : F.L ∈ kp) (ePa : F.Pa = a :: F.ban) (ha : a ≠ F.L ∧ a ∉ frs F.outer ∧ H2 a = none ∧ ∃ o, s2.heap.get? a = some o ∧ NoCell o)
    (hb : ∀ b ∈ F.ban, b ≠ F.L ∧ b ∉ frs F.outer) : Inv (F.cx s2 H2) [] σ H2 s2 := by
  obtain ⟨m, hn, hl⟩ := I.loc
  obtain ⟨oL, es, ep, hoL, hdL⟩ := hn
  have hoL : s1.heap.get? F.L = some oL := by
    have e : X0.env.locals = F.L := by
      rw [eenv]
      rfl
    rw [← e]
    exact hoL
  have eL : s2.heap.get? F.L = some oL := (S.kp F.L hL).1.trans hoL
  have hLs : F.L < s2.heap.objs.size := Heap.lt_size eL
  have bL : F.base.objs.size ≤ F.L := by
    rw [← esz, ← ebase]
    exact I.ok.bsz
  have below : ∀ b ∈ frs F.outer, b < F.L := fun b hb => by
    rw [← eout] at hb
    obtain ⟨_, o, ho, _⟩ := I.ok.funs.mem hb
    rw [← esz]
    exact Heap.lt_size ho
  have sz : (cutH F.L s2.heap).objs.size = F.L := by
    rw [cutH_size]
    exact Nat.min_eq_left (Nat.le_of_lt hLs)
  have cn : ∀ x c, F.env.cells.lookup x = some c → False := fun x c e => by
    rw [nc] at e
    cases e
  refine ⟨⟨?_, ?_, rfl, rfl, ?_, fun x y c e _ => (cn x c e).elim, fun x hx => ?_, fun x c _ e => (cn x c e).elim, fun _ => hd, Around.frames_deeper fr, .inr ⟨rfl, rfl⟩, fun b z => (by cases z), fun b o e => ?_, ?_, fun b o _ z => (by cases z), fun b z => (by cases z), cutH_funs S.funs below, S.frf⟩,
    rfl, S.bare, Un.kept fun b o e => (cutH_le e).2, ⟨m, ⟨oL, es, ep, eL, hdL⟩, fun i x v h1 h2 h3 => ?_⟩, fun x c e => (cn x c e).elim, (S.kp F.L hL).2, fun x c e => (cn x c e).elim, fun p hp' => ?_, S.hok, ?_⟩
  · show Mod F.K F.mg F.base
    rw [← eK, ← emg, ← ebase]
    exact I.ok.mod
  · show F.env.scope.kind = .function
    rw [← eenv]
    exact I.ok.kind
  · show (cutH F.L s2.heap).objs.size ≤ F.L
    exact Nat.le_of_eq sz
  · have q := I.ok.has x (by rw [eenv]; exact hx)
    rw [eenv] at q
    exact q
  · obtain ⟨h1, h2⟩ := S.bs b o e
    exact ⟨by show (cutH F.L s2.heap).get? b = some o; rw [cutH_get (Nat.lt_of_lt_of_le (Heap.lt_size e) bL)]; exact h1, h2⟩
  · show F.base.objs.size ≤ (cutH F.L s2.heap).objs.size
    rw [sz]
    exact bL
  · obtain ⟨u, r, l⟩ := hl i x v (by rw [eN]; exact h1) h2 (by rw [eenv]; exact h3)
    refine ⟨u, r, ?_⟩
    rw [eenv] at l
    rcases l with l | ⟨_, c, e, _⟩
    · exact .inl l
    · exact (cn x c e).elim
  · have q : p ∈ pinsAt F.Pa s2.heap := by
      rcases List.mem_append.mp hp' with q | q
      · exact q
      · cases q
    obtain ⟨q1, q2⟩ := pinsAt_mem q
    rw [ePa] at q1
    rcases List.mem_cons.mp q1 with e | q1
    · obtain ⟨a1, a2, a3, o, a4, a5⟩ := ha
      rw [← e] at a1 a2 a3 a4
      rw [q2] at a4
      cases a4
      exact ⟨q2, a3, a1, a2, a5⟩
    · obtain ⟨b1, o, b2, b3⟩ := S.ban p.1 q1
      rw [q2] at b2
      cases b2
      exact ⟨q2, b1, (hb p.1 q1).1, (hb p.1 q1).2, b3⟩
  · rw [show (F.cx s2 H2).N = X0.N from eN.symm]
    exact I.len

/-- what a call of a generator def gives -/
def MadeT (P : Program) (w : World) (base : Heap) (k : Nat) (outer : List Env) (H : Hp) (s : Shared) (n : Nat) (it : Nat → Ty) (u : Value) (s' : Shared) : Prop :=
  ∃ (a L : Addr) (c : Code) (mk : Around → List Addr → GF), u = .ref a ∧ s.heap.objs.size ≤ L ∧ L < a ∧ a < s'.heap.objs.size ∧ s'.heap.IsGen a s.gens.size ∧ s'.gens[s.gens.size]? = some (.fresh c) ∧ (∀ j, j < s.gens.size → s'.gens[j]? = s.gens[j]?) ∧
    s'.os = s.os ∧ AllBare s'.gens ∧ s'.heap.NoLimit ∧ (∀ b o, s.heap.get? b = some o → s'.heap.get? b = some o) ∧ (∃ o, s'.heap.get? L = some o ∧ NoCell o) ∧ (∃ o, s'.heap.get? a = some o ∧ NoCell o) ∧
    (∀ A ban, (mk A ban).P = P ∧ (mk A ban).w = w ∧ (mk A ban).base = base ∧ (mk A ban).outer = outer ∧ (mk A ban).L = L ∧ (mk A ban).Pa = a :: ban ∧ (mk A ban).ban = ban ∧ (mk A ban).A = A ∧ (mk A ban).g = s.gens.size) ∧
    ∀ A ban H2 s2, Room k A → A.frames = some outer → (∀ b ∈ ban, a < b) → Slp (mk A ban) [L, a] [] s' H H2 s2 → Sg (model P w) A (inW (mk A ban) it n H2 s2) c ((model P w).den c) [] s2
structure GFnT (P : Program) (w : World) (K : PySem.W.Frag) (mg : Str → Option Value) (base : Heap) (k : Nat) (f : Addr) (fd : FuncData) (ps : List Str) {ι : Type} (Ai : ι → List Ty) (n : ι → Nat) (it : ι → Nat → Ty) : Prop where
  len : ∀ i, (Ai i).length = ps.length
  run : ∀ (A : Around) (outer : List Env) (s : Shared) (H : Hp) (args : Args) (us : List Value) (vs : List V) (i : ι), Room k A → Env0 P w K mg base A outer s H → BindsTo s fd args (ps.zip us) → Vals vs us → AllT H vs (Ai i) →
    codeAny (model P w) A (.call (.ref f) args) (fun r s' => match r with | .ok (.ret u) => MadeT P w base k outer H s (n i) (it i) u s' | _ => False) s
/-- a generator def by its body -/
theorem gfnT_of {P : Program} {w : World} {K : PySem.W.Frag} {mg : Str → Option Value} {base : Heap} {k : Nat} {f : Addr} {name qual : Str} {params : Arguments} {body : List Stmt} {scope : Scope} {dV kV doc pm cdv ct oc : Value} {an od : Option Addr}
    {osl : Array (Option Value)} {N ps : List Str} {ι : Type} {Ai : ι → List Ty} {n : ι → Nat} {it : ι → Nat → Ty} (lk : K.lookup f = some ⟨oc, od, .func (PySem.W.fnOf name qual params body scope dV kV doc pm an cdv ct), osl⟩) (hcd : PySem.W.codeIn K cdv qual = true) (S : GScope N ps scope)
    (nc : ∀ m, cellsFrom m scope.names [] = []) (hA : ∀ i, (Ai i).length = ps.length)
    (hbody : ∀ (i : ι) (A : Around) (outer : List Env) (L : Addr) (Pa ban : List Addr) (g : Nat), Room k (A.deeper (envOfC qual scope L f cdv)) → GOk ⟨P, w, K, mg, base, N, qual, scope, f, cdv, A, outer, L, Pa, ban, g⟩ →
      GSts ⟨P, w, K, mg, base, N, qual, scope, f, cdv, A, outer, L, Pa, ban, g⟩ (it i) body (n i) (startR N.length (Ai i)) (fun m _ => m = 0)) :
    GFnT P w K mg base (k + 1) f (PySem.W.fnOf name qual params body scope dV kV doc pm an cdv ct) ps Ai n it := by
  refine ⟨hA, fun A outer s H args us vs i hr e0 hb r hv => ?_⟩
  have hl : vs.length = ps.length := by rw [hv.length, hA]
  have KX : K.In s.heap := e0.mod.kin.keeps fun b o e => (e0.bs b o e).1
  have lim : s.heap.NoLimit := e0.mod.nolimit.keeps fun b o e => (e0.bs b o e).1
  have hkind : ∀ y ∈ ps.zip us, scope.names.lookup y.1 = some .local ∨ (scope.names.lookup y.1 = some .cell ∧ ((cellsFrom (s.heap.objs.size + 1) scope.names []).lookup y.1).isSome = true) := fun ⟨x, v⟩ hy => by
    rcases S.par x (List.of_mem_zip hy).1 with q | q
    · exact .inl q
    · exact .inr ⟨q, PySem.W.cellsFrom_some _ _ _ (.inl q)⟩
  refine codeAny_call_generator hr.depth (KX _ _ lk) rfl S.co S.gen rfl (PySem.W.codeRec_of KX hcd) (hb _ _ _ _ ?_)
  refine wpAny_newFunctionEnv_cells S.kind hkind fun env he s1 x => ?_
  subst he
  have lim1 : s1.heap.NoLimit := lim.keeps x.toInCall.keep
  refine ⟨lim1, ?_⟩
  obtain ⟨h1, tk, es1, hk1⟩ := x.done
  have os1 : s1.os = s.os := by rw [es1]
  have gen1 : s1.gens = s.gens := by rw [es1]
  have lt1 : s.heap.objs.size < s1.heap.objs.size := x.toInCall.ns.lt
  have I1 : Inv (gcxOf P w K mg base N qual scope f cdv A outer s H E0 []) [] (start N vs) H s1 := inv_startG S hr.hd e0 hl r x
  obtain ⟨oL, esL, epL, hoL, hdL, _⟩ := id x.toInCall.ns
  have main : ∀ (go : Obj) (nm qn : Value) (tk2 : Nat), go.cls = .type "generator" → go.data = .fields #[.int s1.gens.size 0, nm, qn] → go.slots = #[] → (∀ h : Heap, (h.push go).get? h.objs.size = some go) →
      MadeT P w base (k + 1) outer H s (n i) (it i) (.ref s1.heap.objs.size) { s1 with gens := s1.gens.push (.fresh (.func body (envOfC qual scope s.heap.objs.size f cdv))), toks := tk2, heap := s1.heap.push go } := by
    intro go nm qn tk2 hgc hgd0 hgs hgp
    have eg : s1.gens.size = s.gens.size := by rw [gen1]
    have hpushed : (s1.heap.push go).get? s1.heap.objs.size = some go := hgp _
    have ngo : NoCell go := fun v q => by
      rw [hgd0] at q
      cases q
    refine ⟨s1.heap.objs.size, s.heap.objs.size, .func body (envOfC qual scope s.heap.objs.size f cdv), fun A' ban => ⟨P, w, K, mg, base, N, qual, scope, f, cdv, A', outer, s.heap.objs.size, s1.heap.objs.size :: ban, ban, s.gens.size⟩, rfl, Nat.le_refl _, lt1, ?_, ?_, ?_, fun j hj => ?_, os1, ?_, lim1.keeps fun b o e => Heap.get?_push_of_some _ e, fun b o e => Heap.get?_push_of_some _ (x.toInCall.keep b o e), ⟨oL, Heap.get?_push_of_some _ hoL, fun v q => ?_⟩, ⟨go, hpushed, ngo⟩, fun A' ban => ⟨rfl, rfl, rfl, rfl, rfl, rfl, rfl, rfl, rfl⟩, ?_⟩
    · show _ < (s1.heap.push _).objs.size
      rw [Heap.size_push]
      exact Nat.lt_succ_self _
    · exact ⟨go, nm, qn, hpushed, hgc, by rw [← eg]; exact hgd0, hgs⟩
    · rw [← eg]
      exact Array.getElem?_push_size ..
    · show (s1.gens.push _)[j]? = _
      rw [gen1, Array.getElem?_push_lt hj, Array.getElem?_eq_getElem hj]
    · exact AllBare.push (by rw [gen1]; exact e0.bare) rfl
    · rw [hdL] at q
      cases q
    intro A' ban H2 s2 hrw hfr hban Sl
    obtain ⟨ka1, ka2⟩ := Sl.kp s1.heap.objs.size (by simp)
    have nfr : ∀ b, s1.heap.objs.size ≤ b → b ∉ frs outer := fun b hb => I1.nofs hb
    have hbL : ∀ b ∈ ban, b ≠ s.heap.objs.size ∧ b ∉ frs outer := fun b hb => ⟨fun z => by
      have := hban b hb
      rw [z] at this
      exact absurd (Nat.lt_trans lt1 this) (Nat.lt_irrefl _), nfr b (Nat.le_of_lt (hban b hb))⟩
    let F : GF := ⟨P, w, K, mg, base, N, qual, scope, f, cdv, A', outer, s.heap.objs.size, s1.heap.objs.size :: ban, ban, s.gens.size⟩
    have Slp1 : Slp F [s.heap.objs.size, s1.heap.objs.size] [] { s1 with gens := s1.gens.push (.fresh (.func body (envOfC qual scope s.heap.objs.size f cdv))), toks := tk2, heap := s1.heap.push go } H H2 s2 := Sl
    have I1' : Inv (gcxOf P w K mg base N qual scope f cdv A outer s H E0 []) [] (start N vs) H { s1 with gens := s1.gens.push (.fresh (.func body (envOfC qual scope s.heap.objs.size f cdv))), toks := tk2, heap := s1.heap.push go } :=
      I1.call' (ch := []) rfl (Un.kept fun b o e => Heap.get?_push_of_some _ e) (I1.hok.kept fun b o e => Heap.get?_push_of_some _ e) (AllBare.push (by rw [gen1]; exact e0.bare) rfl) fun b z => by simp at z
    have J : Inv (F.cx s2 H2) [] (start N vs) H2 s2 := inv_born (a := s1.heap.objs.size) I1' rfl rfl rfl rfl rfl rfl rfl hrw.hd hfr (nc _) Slp1 List.mem_cons_self rfl ⟨Nat.ne_of_gt lt1, nfr _ (Nat.le_refl _), ka2, go, ka1.trans hpushed, ngo⟩ hbL
    have ok : GOk F := ⟨nc _, fun b hb => List.mem_cons_of_mem _ hb, hbL, fun b hb => by
      rcases List.mem_cons.mp hb with e | hb
      · rw [e]
        exact Nat.le_of_lt lt1
      · exact Nat.le_of_lt (Nat.lt_trans lt1 (hban b hb))⟩
    have C : Cur F H2 s2 (start N vs) H2 s2 := ⟨J, Gr.refl _, fun b hb => by
      rcases List.mem_cons.mp hb with e | hb
      · rw [e]
        exact ⟨go, ka1.trans hpushed⟩
      · obtain ⟨_, o, ho, _⟩ := Slp1.ban b hb
        exact ⟨o, ho⟩, Slp1.g⟩
    refine sg_func ?_
    refine (hbody i A' outer _ _ ban s.gens.size (hrw.deeper _) ok).run (.func body F.env) [] _ _ id id H2 s2 (start N vs) H2 s2 ⟨over_func, rfl, rfl, rfl⟩ C (envT_start (hv.mono Slp1.gr)) fun m' ρ' H' s' σ' H1' s1' hm C' _ => ?_
    subst hm
    exact sg_end (.ok (.ret .none)) ⟨rfl, H1', C'.yld⟩
  exact main _ _ _ _ rfl rfl rfl fun h => Heap.get?_push_size _ rfl

/-! ### a store, a read, in the model's own words -/
section
variable {X : Cx} {pins : List (Addr × Obj)} {σ : L2.St} {H : Hp} {s : Shared}
theorem store_raw {A : Around} {E : Value → Shared → Prop} {i : Nat} {x : Str} {v : V} {u : Value} {Q : Unit → Shared → Prop} (I : Inv X pins σ H s) (hN : X.N.Nodup) (hi : X.N[i]? = some x) (hk : X.env.scope.names.lookup x = some .local) (r : RelV v u)
    (h : ∀ h' t, Inv X pins (σ.set i (some v)) H { s with heap := h', toks := t } → (∀ b, b ≠ X.env.locals → h'.get? b = s.heap.get? b) → Q () { s with heap := h', toks := t }) : wpAny (model X.prog X.w) A (storeName X.env x u) Q E s := by
  obtain ⟨m, hn, hl⟩ := id I.loc
  have iL : i < σ.length := I.len ▸ (List.getElem?_eq_some_iff.mp hi).1
  have notCls : (X.env.scope.kind == .class || (X.env.scope.kind == .module && X.env.locals != X.env.globals)) = false := by
    rw [I.ok.kind]
    rfl
  refine wpAny_storeName_local hk hn (fun h' hn' hs => ?_) notCls
  have far : ∀ b, b ≠ X.env.locals → h'.get? b = s.heap.get? b := fun b z => hs.2 b z
  have old : ∀ b o, X.s_0.heap.get? b = some o → b ≠ X.env.locals := fun b o z => Nat.ne_of_lt (Nat.lt_of_lt_of_le (Heap.lt_size z) I.ok.above)
  have to_ : ∀ {b : Addr} {o p : Obj}, X.s_0.heap.get? b = some o → s.heap.get? b = some p → h'.get? b = some p := fun {b o p} z y => (far b (old b o z)).trans y
  refine h h' _ ?_ far
  constructor
  · exact I.ok
  · exact I.os
  · exact I.bare
  · constructor
    · exact fun b o z n y1 y2 => to_ z (I.base.keep b o z n y1 y2)
    · intro b o z n y1 y2
      obtain ⟨sl, q⟩ := I.base.slot b o z n y1 y2
      exact ⟨sl, to_ z q⟩
    · exact I.base.free
    · intro b o z y
      obtain ⟨o2, q⟩ := I.base.there b o z y
      exact ⟨o2, to_ z q⟩
    · exact I.base.tups
    · exact I.base.frzs
    · exact I.base.tbls
  · refine ⟨_, hn', fun j y v' e1 e2 e3 => ?_⟩
    by_cases q : j = i
    · have ey : y = x := by
        rw [q, hi] at e1
        exact (Option.some.inj e1).symm
      rw [q, List.getElem?_set_self iL] at e2
      have ev : v' = v := (Option.some.inj (Option.some.inj e2)).symm
      refine ⟨u, ev ▸ r, .inl ⟨ey ▸ hk, ?_⟩⟩
      simp [ey]
    · rw [List.getElem?_set_ne (fun z => q z.symm)] at e2
      obtain ⟨u2, r2, l2⟩ := hl j y v' e1 e2 e3
      refine ⟨u2, r2, ?_⟩
      rcases l2 with ⟨a1, a2⟩ | ⟨a1, c, a2, o, a3, a4⟩
      · have ny : y ≠ x := fun z => q (nodup_ix hN e1 (z ▸ hi))
        exact .inl ⟨a1, by simp [ny, a2]⟩
      · exact .inr ⟨a1, c, a2, o, (far c (I.cne y c a2)).trans a3, a4⟩
  · intro y c e
    obtain ⟨w2, o, a1, a2⟩ := I.cell y c e
    exact ⟨w2, o, (far c (I.cne y c e)).trans a1, a2⟩
  · exact I.free
  · exact I.freeC
  · intro p hp
    obtain ⟨a1, a2, a3, a4, a5⟩ := I.pin p hp
    exact ⟨(far p.1 a3).trans a1, a2, a3, a4, a5⟩
  · intro b o e
    refine (I.hok b o e).stay (fun c w2 z q => (far c fun y => ?_).trans q) (fun _ q => q) fun _ _ q => q
    have fr := I.free
    rw [← y] at fr
    rcases z with z | z
    · rw [z, e] at fr
      cases fr
    · rw [z] at fr
      cases fr
  · rw [List.length_set]
    exact I.len
/-- other generators' states -/
theorem inv_gens {g : Array GenState} (I : Inv X pins σ H s) (hg : AllBare g) : Inv X pins σ H { s with gens := g } := ⟨I.ok, I.os, hg, I.base, I.loc, I.cell, I.free, I.freeC, I.pin, I.hok, I.len⟩
theorem inv_pins {pins' : List (Addr × Obj)} (I : Inv X pins σ H s) (h : ∀ p ∈ pins', s.heap.get? p.1 = some p.2 ∧ H p.1 = none ∧ p.1 ≠ X.env.locals ∧ p.1 ∉ X.fs ∧ NoCell p.2) : Inv X pins' σ H s := I.pins_of h
end
/-- the walk's own tuple stays where the walker is a generator -/
theorem go_gen {P : Program} {w : World} {A : Around} {E : Value → Shared → Prop} {tg : Expr} {a : Addr} {g : Nat} {v : Value} {s : Shared} {Q : Unit → Shared → Prop} (hg : s.heap.IsGen a g) (h : Q () s) : wpAny (model P w) A (letOwnedTupleGo tg (.ref a) v) Q E s := by
  obtain ⟨o, nm, qn, ho, hc, hd, _⟩ := hg
  have both : ∀ es n p, wpAny (model P w) A (letOwnedTupleGo (.Tuple es n p) (.ref a) v) Q E s := fun es n p => by
    unfold letOwnedTupleGo
    dsimp only
    cases v with
    | ref b =>
      refine wpAny_bind (wpAny_load ho ?_)
      rw [hc, hd]
      dsimp only
      split
      · rename_i q
        rw [Bool.and_eq_true] at q
        exact absurd q.1 (by decide)
      · exact wpAny_pure h
    | _ => exact wpAny_pure h
  cases tg with
  | Tuple es n p => exact both es n p
  | List es p => exact both es 0 p
  | _ => exact wpAny_pure h
end K14
/-! KJ: a generator that walks a generator; list of a generator. -/
namespace K14
open PySem PySem.Spec PyProof.Rows L2 GenW

/-- an expression that makes a generator of n items -/
structure PGn (X : Cx) (k : Nat) (e : Expr) (ρ : Rho) (n : Nat) (it : Nat → Ty) : Prop where
  run : ∀ (pins : List (Addr × Obj)) (s : Shared) (σ : L2.St) (H : Hp), Inv X pins σ H s → EnvT H σ ρ →
    wpAny (model X.prog X.w) X.A (eval e X.env) (fun u s' => ∃ H1 sc, Inv X pins σ H1 sc ∧ Gr H H1 ∧ s.gens.size ≤ sc.gens.size ∧ (∀ b ∈ X.fs, b < X.env.locals) ∧ MadeT X.prog X.w X.base k X.stack H1 sc n it u s') X.xe s
section
variable {X : Cx} {ρ : Rho} {pos : Pos}
/-- f(e, ..) of a generator def -/
theorem pgn_call {ι : Type} {k : Nat} {f : Addr} {fd : FuncData} {ps : List Str} {Ai : ι → List Ty} {n : ι → Nat} {it : ι → Nat → Ty} {x : Str} {e : Expr} {es : List Expr} {Ts : List Ty} {p : Pos} (F : GFnT X.prog X.w X.K X.mg X.base k f fd ps Ai n it) (hr : Room k X.A) (hm : X.mg x = some (.ref f)) (hk : PySem.W.keepIn X.K (.ref f) = true)
    (hb : Binds X.K fd ps []) (ha : PA X (e :: es) (tTA ρ Ts)) (i : ι) (hi : Ai i = Ts) (hg : Gl X x := by rfl)
    (he : starEach (e :: es) X.env = (false, eval e X.env) :: starEach es X.env := by rfl) (hpl : (backTo pos (starEach es X.env)).any (·.1) = false := by rfl) (hdb : (x == ("__debug__" : Str)) = false := by decide) : PGn X k (.Call (.Name x p) (e :: es) [] pos) ρ (n i) (it i) := by
  refine ⟨fun pins s σ H I hE => ?_⟩
  have below : ∀ b ∈ X.fs, b < X.env.locals := fun b hb => by
    obtain ⟨_, o, ho, _⟩ := I.ok.funs.mem hb
    exact Nat.lt_of_lt_of_le (Heap.lt_size ho) I.ok.above
  refine wpAny_Call_Name_kw (ld_glob I hg hm ?_ hdb)
  refine PySem.W.callWith_K (h₀ := X.base) I.ok.mod.kin hk (wpAny_gsz (n := s.gens.size) (Nat.le_refl _) (wpAny_mono (ha.run pos pins s σ H (fun vs H1 => Gr H H1 ∧ AllT H1 vs Ts) I ⟨hE, fun vs H1 a b => ⟨a, b⟩⟩) (fun us s1 hz hsz => ?_) fun x u hx _ => hx)) he hpl
  obtain ⟨vs, H1, I1, r, gr, hv⟩ := hz
  refine ⟨I1.kIn, ?_⟩
  have hl : us.length = ps.length := by
    have e1 := r.length
    have e2 := hv.length
    have e3 := F.len i
    rw [hi] at e3
    omega
  have bt := hb s1 us I1.kIn (by rw [List.append_nil]; exact hl)
  rw [List.append_nil] at bt
  refine wpAny_call (codeAny_mono (F.run X.A X.stack s1 H1 ⟨us, []⟩ us vs i hr I1.env0 bt r (by rw [hi]; exact hv)) fun z s2 hq => ?_)
  cases z with
  | error e => exact False.elim hq
  | ok fl =>
    cases fl with
    | ret u => exact ⟨H1, s1, I1, gr, hsz, below, hq⟩
    | next => exact False.elim hq
    | brk => exact False.elim hq
    | cont => exact False.elim hq
end

/-- a generator that sleeps, as its waker sees it -/
structure Rdy (Fi : GF) (Ai : Around) (it : Nat → Ty) (a : Addr) (m : Nat) (kp : List Addr) (gk : List Nat) (H1 : Hp) (s1 : Shared) : Prop where
  gen : s1.heap.IsGen a Fi.g
  gs : ∃ gs sY HY, s1.gens[Fi.g]? = some gs ∧ s1.os = sY.os ∧ Gr HY H1 ∧ (∀ b ∈ kp, s1.heap.get? b = sY.heap.get? b) ∧ (∀ j ∈ gk, s1.gens[j]? = sY.gens[j]?) ∧ ∀ H2 s2, Slp Fi kp gk sY HY H2 s2 → GoesX (model Fi.P Fi.w) Ai (inW Fi it m H2 s2) gs s2
  kp : ∀ b ∈ kp, H1 b = none ∧ (∃ o, s1.heap.get? b = some o ∧ NoCell o) ∧ b ∉ frs Fi.outer ∧ Fi.L ≤ b
  gk : ∀ j ∈ gk, Fi.g < j ∧ j < s1.gens.size
/-- it sleeps on while other things happen -/
theorem Rdy.on {Fi : GF} {Ai : Around} {it : Nat → Ty} {a : Addr} {m : Nat} {kp : List Addr} {gk : List Nat} {H1 H2 : Hp} {s1 s2 : Shared} (R : Rdy Fi Ai it a m kp gk H1 s1) (ho : s2.os = s1.os) (gr : Gr H1 H2) (ka : s2.heap.get? a = s1.heap.get? a) (kk : ∀ b ∈ kp, s2.heap.get? b = s1.heap.get? b ∧ H2 b = none)
    (kg : s2.gens[Fi.g]? = s1.gens[Fi.g]?) (kj : ∀ j ∈ gk, s2.gens[j]? = s1.gens[j]?) : Rdy Fi Ai it a m kp gk H2 s2 := by
  obtain ⟨gs, sY, HY, g1, g2, g3, g4, g5, g6⟩ := R.gs
  refine ⟨?_, ⟨gs, sY, HY, kg.trans g1, ho.trans g2, g3.trans gr, fun b hb => (kk b hb).1.trans (g4 b hb), fun j hj => (kj j hj).trans (g5 j hj), g6⟩, fun b hb => ?_, fun j hj => ?_⟩
  · obtain ⟨o, nm, qn, h1, h2⟩ := R.gen
    exact ⟨o, nm, qn, ka.trans h1, h2⟩
  · obtain ⟨h1, ⟨o, h2, h3⟩, h4, h5⟩ := R.kp b hb
    exact ⟨(kk b hb).2, ⟨o, (kk b hb).1.trans h2, h3⟩, h4, h5⟩
  · obtain ⟨h1, h2⟩ := R.gk j hj
    refine ⟨h1, ?_⟩
    have e := kj j hj
    rw [Array.getElem?_eq_getElem h2] at e
    exact (Array.getElem?_eq_some_iff.mp e).1
theorem setGen_other {s : Shared} {g j : Nat} {x : GenState} (h : j ≠ g) : (s.setGen g x).gens[j]? = s.gens[j]? := by
  show (s.gens.setIfInBounds g x)[j]? = _
  exact Array.getElem?_setIfInBounds_ne (Ne.symm h)

theorem read_raw {X : Cx} {pins : List (Addr × Obj)} {σ : L2.St} {H : Hp} {s : Shared} {A : Around} {E : Value → Shared → Prop} {i : Nat} {x : Str} {v : V} {p : Pos} {Q : Value → Shared → Prop} (I : Inv X pins σ H s) (hi : X.N[i]? = some x) (hv : σ[i]? = some (some v)) (hk : X.env.scope.names.lookup x = some .local)
    (hd : (x == ("__debug__" : Str)) = false) (h : ∀ u, RelV v u → Q u s) : wpAny (model X.prog X.w) A (eval (.Name x p) X.env) Q E s := by
  obtain ⟨m, hn, hl⟩ := I.loc
  obtain ⟨u, r, l⟩ := hl i x v hi hv (.inl hk)
  rcases l with ⟨_, l⟩ | ⟨l, _⟩
  · exact wpAny_Name (wpAny_loadName_local I.ok.kind hk hn l (h u r)) hd
  · have hk' : X.env.kindOf x = some .local := hk
    rw [hk'] at l
    rcases l with l | l <;> cases l
/-- next of a generator that sleeps -/
theorem next_rdy {X : Cx} {pins : List (Addr × Obj)} {σ : L2.St} {H1 : Hp} {s1 : Shared} {Fi : GF} {Ai : Around} {it : Nat → Ty} {a : Addr} {m : Nat} {kp : List Addr} {gk : List Nat} {Q : Option Value → Shared → Prop} {E : Value → Shared → Prop} {Aw : Around}
    (I : Inv X pins σ H1 s1) (hP : X.prog = Fi.P) (hW : X.w = Fi.w) (hB : X.base = Fi.base) (hS : X.stack = Fi.outer) (hh : Aw.handled = none) (hroom : Aw.depth < recursionLimit) (hAi : Aw.in1 = Ai) (hFA : Fi.A = Ai) (ha : a ∈ Fi.Pa)
    (hban : ∀ b ∈ Fi.ban, H1 b = none ∧ ∃ o, s1.heap.get? b = some o ∧ NoCell o) (R : Rdy Fi Ai it a m kp gk H1 s1)
    (hI : ∀ m' x v H2 s2 gs kp' gk', m = m' + 1 → RelV x v → (it m').p H2 x → Yld Fi H1 (s1.setGen Fi.g .running) H2 s2 → gs.bare = true → Rdy Fi Ai it a m' kp' gk' H2 (s2.setGen Fi.g gs) → (∀ b ∈ kp', b ∉ Fi.ban) → Q (some v) (s2.setGen Fi.g gs))
    (hN : ∀ H2 s2 h', m = 0 → Yld Fi H1 (s1.setGen Fi.g .running) H2 s2 → (∀ b o, s2.heap.get? b = some o → h'.get? b = some o) → Q none { s2.setGen Fi.g .finished with heap := h' }) :
    wpAny (model X.prog X.w) Aw (pyNext (.ref a)) Q E s1 := by
  obtain ⟨gs, sY, HY, g1, g2, g3, g4, g5, g6⟩ := R.gs
  have gsz : Fi.g < s1.gens.size := (Array.getElem?_eq_some_iff.mp g1).1
  have S : Slp Fi kp gk sY HY H1 (s1.setGen Fi.g .running) := by
    refine ⟨g2, allBare_setGen I.bare rfl, ?_, ?_, ?_, ?_, g3, fun b hb => ⟨g4 b hb, (R.kp b hb).1⟩, fun j hj => ?_, hban, ?_⟩
    · rw [← hB]
      exact I.bs
    · rw [← hB, ← hS]
      exact I.stack
    · rw [← hS]
      exact I.stkFree
    · rw [← hP, ← hW]
      exact I.hok
    · exact (setGen_other (Nat.ne_of_gt (R.gk j hj).1)).trans (g5 j hj)
    · rw [setGen_size]
      exact gsz
  have go := g6 H1 (s1.setGen Fi.g .running) S
  rw [← hP, ← hW, ← hAi] at go
  refine wake_next hh I.nolimit hroom R.gen g1 go (fun z u hz => inW_quiet hz) (fun v b l k c p fs u hz => ?_) fun r u hz => ?_
  · cases m with
    | zero => exact hz.elim
    | succ m' =>
      obtain ⟨h1, h2, x, H2, kp', gk', rv, hx, Y, K, cont⟩ := hz
      have eg : (End.susp v b l k c p fs).genState = .suspended k l c p fs false := by
        show GenState.suspended k l c p fs (b || fs.any Frame.guarded) = _
        rw [h1, h2]
        rfl
      rw [eg]
      refine hI m' x v H2 u _ kp' gk' rfl rv hx Y rfl ⟨?_, ⟨_, u, H2, setGen_at Y.g, rfl, Gr.refl _, fun b hb => rfl, fun j hj => setGen_other (Nat.ne_of_gt (K.gk j hj).1), fun H3 s3 Sl => ?_⟩, fun b hb => ?_, fun j hj => ?_⟩ fun b hb => (K.kp b hb).2.2.2.1
      · obtain ⟨o, nm, qn, ho, r⟩ := R.gen
        exact ⟨o, nm, qn, (Y.pa a ha).1.trans ho, r⟩
      · rw [← hFA]
        exact cont H3 s3 Sl
      · obtain ⟨q1, q2, q3, _, q5⟩ := K.kp b hb
        exact ⟨q1, q2, q3, q5⟩
      · rw [setGen_size]
        exact K.gk j hj
  · cases m with
    | succ m' => exact hz.elim
    | zero =>
      obtain ⟨h1, H2, Y⟩ := hz
      exact ⟨.inl h1, fun h' hk => hN H2 u h' rfl Y hk⟩
/-- a generator that was just made -/
theorem rdy_made {P : Program} {w : World} {base : Heap} {k : Nat} {outer : List Env} {H : Hp} {s s1 : Shared} {n : Nat} {it : Nat → Ty} {u : Value} (M : MadeT P w base k outer H s n it u s1) :
    ∃ (a L : Addr) (mk : Around → List Addr → GF), u = .ref a ∧ s.heap.objs.size ≤ L ∧ L < a ∧ a < s1.heap.objs.size ∧ s1.os = s.os ∧ AllBare s1.gens ∧ s1.heap.NoLimit ∧ s1.heap.IsGen a s.gens.size ∧ (∀ b o, s.heap.get? b = some o → s1.heap.get? b = some o) ∧ (∀ j, j < s.gens.size → s1.gens[j]? = s.gens[j]?) ∧ s.gens.size < s1.gens.size ∧
      (∃ o, s1.heap.get? L = some o ∧ NoCell o) ∧ (∃ o, s1.heap.get? a = some o ∧ NoCell o) ∧
      (∀ A ban, (mk A ban).P = P ∧ (mk A ban).w = w ∧ (mk A ban).base = base ∧ (mk A ban).outer = outer ∧ (mk A ban).L = L ∧ (mk A ban).Pa = a :: ban ∧ (mk A ban).ban = ban ∧ (mk A ban).A = A ∧ (mk A ban).g = s.gens.size) ∧
      ∀ A ban, Room k A → A.frames = some outer → (∀ b ∈ ban, a < b) → H L = none → H a = none → L ∉ frs outer → a ∉ frs outer → Rdy (mk A ban) A it a n [L, a] [] H s1 := by
  obtain ⟨a, L, c, mk, rfl, h1, h2, h3, h4, h5, h6, h7, h8, h9, h10, h11, h12, h13, h14⟩ := M
  refine ⟨a, L, mk, rfl, h1, h2, h3, h7, h8, h9, h4, h10, h6, (Array.getElem?_eq_some_iff.mp h5).1, h11, h12, h13, fun A ban hr hf hb nL na fL fa => ?_⟩
  obtain ⟨e1, e2, e3, e4, e5, e6, e7, e8, e9⟩ := h13 A ban
  refine ⟨by rw [e9]; exact h4, ⟨_, s1, H, by rw [e9]; exact h5, rfl, Gr.refl _, fun b hb => rfl, fun j hj => rfl, fun H2 s2 S => ?_⟩, fun b hb => ?_, fun j hj => by cases hj⟩
  · rw [e1, e2]
    exact h14 A ban H2 s2 hr hf hb S
  · rw [e4, e5]
    rcases List.mem_cons.mp hb with e | hb
    · subst e
      exact ⟨nL, h11, fL, Nat.le_refl _⟩
    · rw [List.mem_singleton.mp hb]
      exact ⟨na, h12, fa, Nat.le_of_lt h2⟩

/-- for x, y in g(..): yield x, within a generator -/
theorem gs_forGen {F : GF} {it it' : Nat → Ty} {n k : Nat} {ρ ρ0 : Rho} {nx : Nat → Rho → Prop} {T U : Nat → Ty} {i j kt : Nat} {x y : Str} {iter : Expr} {p1 p2 pt p3 yp pos2 pos : Pos} (ok : GOk F) (hr : Room (k + 1) (F.A.deeper F.env)) (he : ∀ s H, PGn (F.cx s H) k iter ρ n it')
    (hit : ∀ m, it' m = tyP F.K (T m) (U m)) (hy : ∀ m, (T m).le (it m)) (hρ : ∀ H σ, EnvT H σ ρ → EnvT H σ ρ0) (hρi : (ρ0.set i none).set j none = ρ0) (hn : nx 0 ρ0) (hN : F.N.Nodup) (hij : i ≠ j) (hi : F.N[i]? = some x) (hj : F.N[j]? = some y) (hlx : F.scope.names.lookup x = some .local) (hly : F.scope.names.lookup y = some .local)
    (hco : F.scope.isCoroutine = false := by rfl) (hin : interactive F.env = false := by rfl) (hdx : (x == ("__debug__" : Str)) = false := by decide) (hs : ∀ z, foldedSetIterable iter F.env z = pure z := by intro _; rfl) :
    GSt F it (.For (.Tuple [.Name x p1, .Name y p2] kt pt) iter [.Expr (.Yield (some (.Name x p3)) yp) pos2] [] pos) n ρ nx :=
  ⟨fun c fs k1 k2 b1 b2 H s σ H1 s1 g C hE kk => by
  refine sg_For ?_ hs
  rw [g.over]
  refine wpAny_mono ((he s H).run [] s1 σ H1 C.inv hE) (fun u s2 hz => ?_) fun x u hx => False.elim hx
  obtain ⟨H2, sc, I2, gr2, hsz, hbel, M⟩ := hz
  have gsc : F.g < sc.gens.size := Nat.lt_of_lt_of_le C.g hsz
  obtain ⟨a, L, mk, rfl, q1, q2, q3, q4, q5, q6, q7, q8, q9, q10, q11, q12, q13, q14⟩ := rdy_made M
  have q7' : s2.heap.IsGen a sc.gens.size := q7
  refine wpAny_pyIter_gen q7' ?_
  intro p
  have gl : GCo F (.forLoop (.Tuple [.Name x p1, .Name y p2] kt pt) (.ref a) [.Expr (.Yield (some (.Name x p3)) yp) pos2] [] F.env) (.ret (backK F.env k1 k2 b1 b2) none (b1 false) (b2 []) c p [] :: fs) id := by
    refine ⟨(over_loop rfl rfl).trans g.over, ?_, ?_, rfl⟩
    · show (splitAtGen fs).map _ = none
      rw [g.split]
      rfl
    · show (b1 false || fs.any Frame.guarded) = false
      rw [g.gd, g.guard]
      rfl
  -- the walked generator's frame
  let Aw : Around := F.A.deeper F.env
  let Fi : GF := mk Aw.in1 []
  obtain ⟨e1, e2, e3, e4, e5, e6, e7, e8, e9⟩ := q13 Aw.in1 []
  have szL : ∀ b o, sc.heap.get? b = some o → b < L := fun b o e => Nat.lt_of_lt_of_le (Heap.lt_size e) q1
  have I3 : Inv (F.cx s H) [] σ H2 s2 := I2.call' (ch := []) q4 (Un.kept q8) (I2.hok.kept q8) q5 fun b z => by simp at z
  have nL : H2 L = none := I2.hok.fresh q1
  have na : H2 a = none := I2.hok.fresh (Nat.le_of_lt (Nat.lt_of_le_of_lt q1 q2))
  have nfr : ∀ b, sc.heap.objs.size ≤ b → b ∉ frs (F.cx s H).stack := fun b hb z => by
    rcases List.mem_cons.mp (I2.stkSub b z) with q | q
    · have := I2.lt
      rw [← q] at this
      exact absurd (Nat.lt_of_lt_of_le this hb) (Nat.lt_irrefl _)
    · exact I2.nofs hb q
  have R0 : Rdy Fi Aw.in1 it' a n [L, a] [] H2 s2 := q14 Aw.in1 [] hr.in1 I2.ok.frames (fun b z => by cases z) nL na (nfr L q1) (nfr a (Nat.le_of_lt (Nat.lt_of_le_of_lt q1 q2)))
  have hLL : F.L < L := by
    have := I2.lt
    exact Nat.lt_of_lt_of_le this q1
  have paLt : ∀ b ∈ F.Pa, b < L := fun b hb => by
    obtain ⟨o, ho⟩ := C.pa b hb
    obtain ⟨z1, _⟩ := I2.pin (b, o) (List.mem_append_left _ (mem_pinsAt hb ho))
    exact szL b o z1
  have loop : ∀ (m : Nat) (kp : List Addr) (gk : List Nat) (H : Hp) (s : Shared) (σ : L2.St) (H1 : Hp) (s1 : Shared), Cur F H s σ H1 s1 → EnvT H1 σ ρ0 → Rdy Fi Aw.in1 it' a m kp gk H1 s1 → H1 a = none → (∃ o, s1.heap.get? a = some o ∧ NoCell o) →
      Sg (model F.P F.w) F.A (inW F it m H s) (.forLoop (.Tuple [.Name x p1, .Name y p2] kt pt) (.ref a) [.Expr (.Yield (some (.Name x p3)) yp) pos2] [] F.env) ((model F.P F.w).den (.forLoop (.Tuple [.Name x p1, .Name y p2] kt pt) (.ref a) [.Expr (.Yield (some (.Name x p3)) yp) pos2] [] F.env))
        (.ret (backK F.env k1 k2 b1 b2) none (b1 false) (b2 []) c p [] :: fs) s1 := by
    intro m
    induction m using Nat.strongRecOn with
    | ind m ih =>
      intro kp gk H s σ H1 s1 C hE R na1 ho1
      refine sg_forLoop ?_
      rw [gl.over]
      have fed : ∀ H2 s2, Yld Fi H1 (s1.setGen Fi.g .running) H2 s2 → Inv (F.cx s H) [] σ H2 s2 := fun H2 s2 Y => by
        refine inv_fed (F := Fi) rfl (inv_gens C.inv (allBare_setGen C.inv.bare rfl)) e1.symm e2.symm e4.symm (by rw [e5]; exact hLL) (fun x c e => ?_) (fun p hp => ?_) Y
        · have e : F.env.cells.lookup x = some c := e
          rw [ok.nc] at e
          cases e
        · rw [List.append_nil] at hp
          rw [e5]
          exact .inl (paLt _ (pinsAt_mem hp).1)
      have gF : ∀ {H2 s2}, Yld Fi H1 (s1.setGen Fi.g .running) H2 s2 → F.g < s2.gens.size := fun Y => Nat.lt_trans (by rw [e9]; exact gsc) Y.g
      refine next_rdy (Ai := Aw.in1) C.inv e1.symm e2.symm e3.symm e4.symm hr.hd hr.depth rfl e8 (by rw [e6]; exact List.mem_cons_self) (fun b hb => by rw [e7] at hb; cases hb) R (fun m' x0 v H2 s2 gs kp' gk' em rv hx Y hbare R2 nban => ?_) fun H2 s2 h' em Y hk => ?_
      · subst em
        have I4 : Inv (F.cx s H) [] σ H2 (s2.setGen Fi.g gs) := inv_gens (fed H2 s2 Y) (allBare_setGen Y.bare hbare)
        refine go_gen R2.gen ?_
        rw [hit] at hx
        obtain ⟨t, xa, xb, rfl, hsq, hA, hB⟩ := hx
        have ev : v = Value.ref t := rv
        subst ev
        obtain ⟨its, rvs, ht, _⟩ := I4.tuple hsq
        cases rvs with
        | @cons _ ua _ _ ra rvs =>
        cases rvs with
        | @cons _ ub _ _ rb rvs =>
        cases rvs
        refine assign_Tuple_tuple hr.hd ht rfl rfl fun h5 hk5 => ?_
        have keep5 : ∀ b o, s2.heap.get? b = some o → h5.get? b = some o := fun b o e => hk5 b o (Nat.ne_of_lt (Heap.lt_size e)) e
        have I5 : Inv (F.cx s H) [] σ H2 { s2.setGen Fi.g gs with heap := h5 } := I4.kept (t' := s2.toks) keep5
        refine assignInOrder_cons (wpAny_assign_Name (store_raw I5 hN hi hlx ra fun h6 t6 I6 far6 => ?_))
        refine assignInOrder_cons (wpAny_assign_Name (store_raw I6 hN hj hly rb fun h7 t7 I7 far7 => ?_))
        refine assignInOrder_nil ?_
        have keep7 : ∀ b o, b ≠ F.L → s2.heap.get? b = some o → h7.get? b = some o := fun b o hb e => (far7 b hb).trans ((far6 b hb).trans (keep5 b o e))
        have li : i < σ.length := by
          rw [C.inv.len]
          exact (List.getElem?_eq_some_iff.mp hi).1
        have slot : ((σ.set i (some xa)).set j (some xb))[i]? = some (some xa) := by
          rw [List.getElem?_set_ne (fun z => hij z.symm), List.getElem?_set_self li]
        refine sg_cons ?_
        refine sg_yieldS gl.split gl.gd gl.guard ?_ hco hin
        rw [gl.over]
        refine read_raw I7 hi slot hlx hdx fun u ru => ?_
        intro l0 k0 p0 hk0
        have Ysz := gF Y
        have C7 : Cur F H s ((σ.set i (some xa)).set j (some xb)) H2 { s2.setGen Fi.g gs with heap := h7, toks := t7 } := ⟨I7, C.gr.trans Y.gr, C.pa, by
          show F.g < (s2.setGen Fi.g gs).gens.size
          rw [setGen_size]
          exact Ysz⟩
        have Yo := C7.yld
        have na2 : H2 a = none := (Y.pa a (by rw [e6]; exact List.mem_cons_self)).2
        have oa2 : ∃ o, s2.heap.get? a = some o ∧ NoCell o := by
          obtain ⟨o, ho, hc⟩ := ho1
          exact ⟨o, (Y.pa a (by rw [e6]; exact List.mem_cons_self)).1.trans ho, hc⟩
        have sub : ∀ b, b ∉ frs Fi.outer → b ∉ frs F.outer := fun b h z => h (by
          rw [e4]
          show b ∈ frs (F.env :: F.outer)
          unfold frs
          rw [List.filterMap_cons]
          exact List.mem_cons_of_mem _ z)
        have kfact : ∀ b ∈ a :: kp', H2 b = none ∧ (∃ o, s2.heap.get? b = some o ∧ NoCell o) ∧ b ∉ frs F.outer ∧ F.L < b ∧ b ∉ F.ban := fun b hb => by
          have nb : ∀ b, L ≤ b → b ∉ F.ban := fun b hb z => absurd (Nat.lt_of_lt_of_le (paLt b (ok.banPa b z)) hb) (Nat.lt_irrefl _)
          rcases List.mem_cons.mp hb with e | hb
          · subst e
            refine ⟨na2, oa2, fun z => ?_, Nat.lt_trans hLL q2, nb b (Nat.le_of_lt q2)⟩
            exact absurd (Nat.lt_trans (Nat.lt_trans (cx_below I7 b z) hLL) q2) (Nat.lt_irrefl _)
          · obtain ⟨z1, z2, z3, z4⟩ := R2.kp b hb
            rw [e5] at z4
            exact ⟨z1, z2, sub b z3, Nat.lt_of_lt_of_le hLL z4, nb b z4⟩
        refine ⟨rfl, gl.guard, xa, H2, F.L :: (F.Pa.filter (fun b => decide (b ∉ F.ban)) ++ a :: kp'), Fi.g :: gk', ru, hy m' H2 xa hA, Yo, ⟨fun b hb => ?_, fun q hq => ?_⟩, fun H3 s3 S => hk0 _ _ ?_⟩
        · rcases List.mem_cons.mp hb with e | hb
          · subst e
            exact ⟨Yo.fL, Yo.oL, fun z => Nat.lt_irrefl _ (cx_below I7 _ z), fun z => (ok.banL _ z).1 rfl, Nat.le_refl _⟩
          · rcases List.mem_append.mp hb with hb | hb
            · obtain ⟨hb1, hb2⟩ := List.mem_filter.mp hb
              obtain ⟨o, ho⟩ := C.pa b hb1
              obtain ⟨z1, z2, z3, z4, z5⟩ := I7.pin (b, o) (List.mem_append_left _ (mem_pinsAt hb1 ho))
              exact ⟨z2, ⟨o, z1, z5⟩, z4, of_decide_eq_true hb2, ok.paL b hb1⟩
            · obtain ⟨z1, ⟨o, z2, z3⟩, z4, z5, z6⟩ := kfact b hb
              exact ⟨z1, ⟨o, keep7 b o (Nat.ne_of_gt z5) z2, z3⟩, z4, z6, Nat.le_of_lt z5⟩
        · show F.g < q ∧ q < (s2.setGen Fi.g gs).gens.size
          rcases List.mem_cons.mp hq with e | hq
          · rw [e, setGen_size]
            exact ⟨by rw [e9]; exact gsc, Y.g⟩
          · obtain ⟨z1, z2⟩ := R2.gk q hq
            exact ⟨Nat.lt_trans (by rw [e9]; exact gsc) z1, z2⟩
        · have I7p : Inv (F.cx s H) (pinsAt (a :: kp') h7) ((σ.set i (some xa)).set j (some xb)) H2 { s2.setGen Fi.g gs with heap := h7, toks := t7 } := inv_pins I7 fun p hp => by
            obtain ⟨z1, z2⟩ := pinsAt_mem hp
            obtain ⟨y1, ⟨o, y2, y3⟩, y4, y5, y6⟩ := kfact p.1 z1
            have e := keep7 p.1 o (Nat.ne_of_gt y5) y2
            rw [z2] at e
            cases e
            exact ⟨z2, y1, Nat.ne_of_gt y5, y4, y3⟩
          have E7 : EnvT H2 ((σ.set i (some xa)).set j (some xb)) ρ0 := by
            rw [← hρi]
            exact EnvT.unset j _ (EnvT.unset i _ (hE.mono Y.gr))
          obtain ⟨I8, E8⟩ := inv_woke I7p ok.nc S List.mem_cons_self (fun p hp => List.mem_cons_of_mem _ (List.mem_append_right _ (pinsAt_mem hp).1)) (fun b hb hn => List.mem_cons_of_mem _ (List.mem_append_left _ (List.mem_filter.mpr ⟨hb, decide_eq_true hn⟩))) C.pa ok.banL E7
          have inkp : ∀ b ∈ a :: kp', s3.heap.get? b = s2.heap.get? b ∧ H3 b = none := fun b hb => by
            obtain ⟨y1, ⟨o, y2, y3⟩, y4, y5, y6⟩ := kfact b hb
            obtain ⟨w1, w2⟩ := S.kp b (List.mem_cons_of_mem _ (List.mem_append_right _ hb))
            exact ⟨w1.trans ((keep7 b o (Nat.ne_of_gt y5) y2).trans y2.symm), w2⟩
          refine sg_again rfl (ih m' (Nat.lt_succ_self _) kp' gk' H3 s3 _ H3 s3 ⟨inv_pins I8 (fun p hp => by cases hp), Gr.refl _, fun b hb => ?_, S.g⟩ E8 ?_ (inkp a List.mem_cons_self).2 ?_)
          · by_cases q : b ∈ F.ban
            · obtain ⟨_, o, ho, _⟩ := S.ban b q
              exact ⟨o, ho⟩
            · obtain ⟨o, ho⟩ := C.pa b hb
              obtain ⟨z1, _⟩ := I7.pin (b, o) (List.mem_append_left _ (mem_pinsAt hb ho))
              exact ⟨o, (S.kp b (List.mem_cons_of_mem _ (List.mem_append_left _ (List.mem_filter.mpr ⟨hb, decide_eq_true q⟩)))).1.trans z1⟩
          · exact R2.on S.os S.gr (inkp a List.mem_cons_self).1 (fun b hb => inkp b (List.mem_cons_of_mem _ hb)) (S.gk Fi.g List.mem_cons_self) fun q hq => S.gk q (List.mem_cons_of_mem _ hq)
          · obtain ⟨o, ho, hc⟩ := oa2
            exact ⟨o, (inkp a List.mem_cons_self).1.trans ho, hc⟩
      · subst em
        have I3 := fed H2 s2 Y
        have I4 : Inv (F.cx s H) [] σ H2 { s2.setGen Fi.g .finished with heap := h' } := (inv_gens I3 (allBare_setGen Y.bare rfl)).kept (t' := s2.toks) hk
        refine sg_again rfl (sg_block_nil (sg_leaf (.ok .next) (kk 0 ρ0 H s σ H2 _ hn ⟨I4, C.gr.trans Y.gr, C.pa, ?_⟩ (hE.mono Y.gr))))
        show F.g < (s2.setGen Fi.g .finished).gens.size
        rw [setGen_size]
        exact gF Y
  exact loop n [L, a] [] H s σ H2 s2 ⟨I3, C.gr.trans gr2, C.pa, by
    have := q9 F.g gsc
    rw [Array.getElem?_eq_getElem gsc] at this
    exact (Array.getElem?_eq_some_iff.mp this).1⟩ (hρ _ _ (hE.mono gr2)) R0 na q12⟩

/-! ### list(g) -/
def downT (it : Nat → Ty) : Nat → List Ty
  | 0 => []
  | m + 1 => it m :: downT it m
section
variable {X : Cx} {σ : L2.St} {Fi : GF} {it : Nat → Ty} {a S : Addr} {H0 : Hp} {all : List Ty} {res : Value} {R : Result → Shared → Prop} {A : Around}
theorem drainT {pins : List (Addr × Obj)} (hx : X.ex = []) (hpn : ∀ p ∈ X.pn ++ pins, p.1 < Fi.L) (hP : X.prog = Fi.P) (hW : X.w = Fi.w) (hB : X.base = Fi.base) (hS : X.stack = Fi.outer) (hh : A.handled = none) (hroom : A.depth < recursionLimit) (hFA : Fi.A = A.in1.in1) (ha : Fi.Pa = [a, S]) (hban : Fi.ban = [S]) (hL : X.env.locals < Fi.L) (hC : ∀ x c, X.env.cells.lookup x = some c → c < Fi.L) (haS : a < S) (hLS : Fi.L < S)
    (hsz : X.s_0.heap.objs.size ≤ S)
    (hend : ∀ s' acc c H' ys, Inv X pins σ H' s' → Gr H0 H' → H' S = none → s'.heap.get? S = some (lstObj acc c) → Vals ys acc.toList → AllT H' ys all → R (.ok (.ret res)) s') :
    ∀ (m : Nat) (kp : List Addr) (gk : List Nat) (H1 : Hp) (s1 : Shared) (acc : Array Value) (c : Nat) (ys : List V) (zs : List Ty), Inv X pins σ H1 s1 → Gr H0 H1 → Rdy Fi A.in1.in1 it a m kp gk H1 s1 → S ∉ kp → H1 S = none → s1.heap.get? S = some (lstObj acc c) → Vals ys acc.toList → AllT H1 ys zs → zs ++ downT it m = all → zs.length + m ≤ 1000000 →
      codeAny (model X.prog X.w) A (.builtin "list.extend.loop" ⟨[.ref S, .ref a, res], []⟩) R s1 := by
  intro m
  induction m using Nat.strongRecOn with
  | ind m ih =>
    intro kp gk H1 s1 acc c ys zs I gr Rd nS hS0 hSo hv hT hall hlen
    refine codeAny_builtin PySem.F.entry_extend_loop ?_
    rw [Around.under_plainId PySem.F.plain_extend_loop _]
    show wpAny _ A.in1 (pyNext (.ref a) >>= _) _ _ s1
    have fed : ∀ H2 s2, Yld Fi H1 (s1.setGen Fi.g .running) H2 s2 → Inv X pins σ H2 s2 ∧ s2.heap.get? S = some (lstObj acc c) ∧ H2 S = none := fun H2 s2 Y => by
      obtain ⟨y1, y2⟩ := Y.pa S (by rw [ha]; simp)
      refine ⟨inv_fed hx (inv_gens I (allBare_setGen I.bare rfl)) hP hW hS hL hC (fun p hp => .inl (hpn p hp)) Y, y1.trans hSo, y2⟩
    refine wpAny_bind (next_rdy (Ai := A.in1.in1) I hP hW hB hS (show A.in1.handled = none from hh) (show A.in1.depth < recursionLimit from hroom) rfl hFA (by rw [ha]; exact List.mem_cons_self) (fun b hb => ?_) Rd (fun m' x0 v H2 s2 gs kp' gk' em rv hx0 Y hbare R2 nban => ?_) fun H2 s2 h' em Y hk => ?_)
    · rw [hban] at hb
      rw [List.mem_singleton.mp hb]
      exact ⟨hS0, _, hSo, fun v q => by cases q⟩
    · subst em
      obtain ⟨I3, hS3, nS3⟩ := fed H2 s2 Y
      have hasz : acc.size < sizeLine := by
        have e1 := hv.length
        have e2 := hT.length
        have e3 : acc.toList.length = acc.size := by simp
        rw [sizeLine_eq]
        omega
      show wpAny _ A.in1 (updateSeq S (·.push v) >>= _) _ _ _
      refine wpAny_bind (wpAny_updateSeq (s := s2.setGen Fi.g gs) hS3 rfl (wpAny_pure ⟨plainId_quiet PySem.F.plain_extend_loop _, ?_⟩) (Nat.le_of_lt hasz) (by show (acc.push v).size ≤ sizeLine + 1; rw [Array.size_push]; omega))
      have far : ∀ b o, b ≠ S → s2.heap.get? b = some o → (s2.heap.update S (Obj.mapSeq (·.push v))).get? b = some o := fun b o hb e => (Heap.get?_update_other _ _ (Ne.symm hb)).trans e
      have nL : S ≠ X.env.locals := fun z => by
        rw [← z] at hL
        exact absurd (Nat.lt_trans hL hLS) (Nat.lt_irrefl _)
      have nC : ∀ x c, X.env.cells.lookup x = some c → c ≠ S := fun x c e z => by
        have := hC x c e
        rw [z] at this
        exact absurd (Nat.lt_trans this hLS) (Nat.lt_irrefl _)
      have I4 : Inv X pins σ H2 { s2.setGen Fi.g gs with heap := s2.heap.update S (Obj.mapSeq (·.push v)) } := (inv_gens I3 (allBare_setGen Y.bare hbare)).turned (t' := s2.toks) far nS3 nL (.inr hsz) nC fun p hp z => by
        have := hpn p hp
        rw [z] at this
        exact absurd (Nat.lt_trans this hLS) (Nat.lt_irrefl _)
      have nkp : S ∉ kp' := fun z => nban S z (by rw [hban]; exact List.mem_singleton.mpr rfl)
      refine ih m' (Nat.lt_succ_self _) kp' gk' H2 _ (acc.push v) _ (ys ++ [x0]) (zs ++ [it m']) I4 (gr.trans Y.gr) (R2.on rfl (Gr.refl _) ?_ (fun b hb => ?_) rfl fun _ _ => rfl) nkp nS3 (Heap.get?_update_self _ hS3 rfl) ?_ ((hT.mono Y.gr).app ⟨hx0, True.intro⟩) (by rw [List.append_assoc]; exact hall) (by rw [List.length_append, List.length_singleton]; omega)
      · exact Heap.get?_update_other _ _ (Nat.ne_of_gt haS)
      · exact ⟨Heap.get?_update_other _ _ (fun z => nkp (z ▸ hb)), (R2.kp b hb).1⟩
      · rw [Array.toList_push]
        exact hv.append (.cons rv .nil)
    · subst em
      obtain ⟨I3, hS3, nS3⟩ := fed H2 s2 Y
      have e : zs = all := by
        rw [← hall]
        exact (List.append_nil _).symm
      refine wpAny_pure (hend _ acc c H2 ys ((inv_gens I3 (allBare_setGen Y.bare rfl)).kept (t' := s2.toks) hk) (gr.trans Y.gr) nS3 (hk _ _ hS3) hv ?_)
      rw [← e]
      exact hT.mono Y.gr
end

theorem downT_len (it : Nat → Ty) : ∀ n, (downT it n).length = n
  | 0 => rfl
  | n + 1 => congrArg (· + 1) (downT_len it n)
/-- list(g) -/
theorem te_listGen {X : Cx} {ρ : Rho} {k n : Nat} {it : Nat → Ty} {e : Expr} {nm : Str} {p pos : Pos} (hx : X.ex = []) (hcell : X.env.cells = []) (h : PGn X k e ρ n it) (hr : Room (k + 3) X.A) (hn : n ≤ 1000000) (hmg : X.mg nm = none) (hv : bootBuiltins nm = some (.type "list")) (hg : Gl X nm := by rfl)
    (hnm : nm ≠ "__name__" := by decide) (hdb : (nm == ("__debug__" : Str)) = false := by decide) (he : starEach [e] X.env = (false, eval e X.env) :: starEach [] X.env := by rfl) : PE X (.Call (.Name nm p) [e] [] pos) (tT ρ (tyL (downT it n))) := by
  refine ⟨fun pins s σ H Q I ⟨hE, hQ⟩ => ?_⟩
  refine wpAny_Call_Name_kw (ld_blt I hg hmg hv ?_ hnm hdb)
  refine PyProof.Rows.callWith_type1 ?_ he rfl
  rw [he]
  show wpAny _ _ (spliced ((false, eval e X.env) :: backTo pos (starEach [] X.env))) _ _ s
  refine Calls.spliced_cons (thn (h.run pins s σ H I hE) fun u s1 ⟨H1, sc, I1, gr1, hsz, hbel, M⟩ => ?_)
  refine Calls.spliced_nil ?_
  obtain ⟨a, L, mk, rfl, q1, q2, q3, q4, q5, q6, q7, q8, q9, q10, q11, q12, q13, q14⟩ := rdy_made M
  have I2 : Inv X pins σ H1 s1 := I1.call' (ch := []) q4 (Un.kept q8) (I1.hok.kept q8) q5 fun b z => by simp at z
  let S : Addr := s1.heap.objs.size
  have lt1 : ∀ b o, s1.heap.get? b = some o → b < S := fun b o z => Heap.lt_size z
  have nS : H1 S = none := I2.hok.fresh (Nat.le_refl _)
  have nfr : ∀ b, sc.heap.objs.size ≤ b → b ∉ frs X.stack := fun b hb z => by
    rcases List.mem_cons.mp (I1.stkSub b z) with q | q
    · have := I1.lt
      rw [← q] at this
      exact absurd (Nat.lt_of_lt_of_le this hb) (Nat.lt_irrefl _)
    · exact I1.nofs hb q
  have hLL : X.env.locals < L := Nat.lt_of_lt_of_le I1.lt q1
  obtain ⟨e1, e2, e3, e4, e5, e6, e7, e8, e9⟩ := q13 X.A.in1.in1.in1 [S]
  have hcl : cStatics < S := let ⟨_, hn, _⟩ := q6; hn.lt
  have laS : a < S := q3
  have R0 : Rdy (mk X.A.in1.in1.in1 [S]) X.A.in1.in1.in1 it a n [L, a] [] H1 s1 := q14 X.A.in1.in1.in1 [S] ⟨hr.hd, by
      have := hr.dp
      show X.A.depth + 3 * k + 5 < _
      omega, by
      have := hr.un
      show X.A.units + 1 + 1 + 1 + 16 * k + 200 < _
      omega⟩ I2.ok.frames (fun b z => by rw [List.mem_singleton.mp z]; exact q3) (I1.hok.fresh q1) (I1.hok.fresh (Nat.le_of_lt (Nat.lt_of_le_of_lt q1 q2))) (nfr L q1) (nfr a (Nat.le_of_lt (Nat.lt_of_le_of_lt q1 q2)))
  refine callType_codes (Q₁ := fun obj s₁ => obj = .ref S ∧ s₁ = { s1 with heap := s1.heap.push { cls := .type "list", data := .seq #[] } }) PySem.F.called_list (PySem.F.typeCall_list_1 _) PySem.F.entry_list_init (code_list_new _ ⟨rfl, rfl⟩) fun obj s₁ h₁ => ?_
  obtain ⟨rfl, rfl⟩ := h₁
  have hS1 : (s1.heap.push { cls := .type "list", data := .seq #[] }).get? S = some { cls := .type "list", data := .seq #[] } := Heap.get?_push_size _ rfl
  refine ⟨⟨_, hS1, rfl⟩, PySem.F.args_list_init_2 _ _, ?_⟩
  show wpAny _ X.A.in1.in1 (do let old ← Builtin.List.listItems (.ref S); Builtin.List.listUpdate (.ref S) (fun _ => #[]); letGo old.toList.reverse; Builtin.List.listExtendWith (.ref S) (.ref a) .none) _ _ _
  refine wpAny_bind ?_
  unfold Builtin.List.listItems
  refine wpAny_bind (wpAny_seqItems hS1 rfl (wpAny_pure ?_))
  show wpAny _ X.A.in1.in1 (updateSeq S (fun _ => #[]) >>= fun _ => letGo (#[] : Array Value).toList.reverse >>= fun _ => Builtin.List.listExtendWith (.ref S) (.ref a) .none) _ _ _
  refine wpAny_bind (wpAny_updateSeq hS1 rfl ?_)
  have hS2 := Heap.get?_update_self (Obj.mapSeq (fun _ => (#[] : Array Value))) hS1 rfl
  refine wpAny_bind (wpAny_letGo ?_)
  unfold Builtin.List.listExtendWith
  have up : ∀ (h : Heap) (f : Obj → Obj), (∀ b o, s1.heap.get? b = some o → h.get? b = some o) → ∀ b o, s1.heap.get? b = some o → (h.update S f).get? b = some o := fun h f z b o y => (Heap.get?_update_other _ _ (Ne.symm (Nat.ne_of_lt (lt1 b o y)))).trans (z b o y)
  have k1 : ∀ b o, s1.heap.get? b = some o → (s1.heap.push { cls := .type "list", data := .seq #[] }).get? b = some o := fun b o z => Heap.get?_push_of_some _ z
  have k2 := up _ (Obj.mapSeq (fun _ => (#[] : Array Value))) k1
  have gty : ∀ {h : Heap}, (∀ b o, s1.heap.get? b = some o → h.get? b = some o) → h.IsGen a sc.gens.size := fun {h} z => q7.keeps z
  refine wpAny_bind (wpAny_typeOf (Heap.IsGen.typeIs (s := { s1 with heap := _ }) (gty k2)) ?_)
  have no1 : Builtin.List.listSameRef (.ref S) (.ref a) = false := by simp [Builtin.List.listSameRef, Nat.ne_of_gt laS]
  have no2 : (Value.type "generator" == Value.type "list") = false := by decide
  have no3 : (Value.type "generator" == Value.type "tuple") = false := by decide
  simp only [no1, no2, no3, Bool.or_false, Bool.false_eq_true, if_false]
  refine wpAny_bind (wpAny_pyIter_gen (s := { s1 with heap := _ }) (gty k2) ?_)
  refine wpAny_bind (wpAny_holding ?_)
  unfold Builtin.List.listLengthHint
  refine wpAny_bind (wpAny_specialOf (Heap.IsGen.typeIs (s := { s1 with heap := _ }) (gty k2)) PySem.F.gen_no_len ?_)
  show wpAny _ X.A.in1.in1 (specialOf (Value.ref a) (Str.ofString "__length_hint__") >>= _) _ _ _
  refine wpAny_bind (wpAny_specialOf (Heap.IsGen.typeIs (s := { s1 with heap := _ }) (gty k2)) PySem.F.gen_no_hint ?_)
  refine wpAny_pure ?_
  show wpAny _ X.A.in1.in1 (rule "list.extend.makes-room" >>= fun _ => Builtin.List.listTouch (.ref S) >>= fun _ => again (.builtin "list.extend.loop" ⟨[.ref S, .ref a, .none], []⟩)) _ _ _
  refine wpAny_bind (wpAny_rule ?_)
  refine wpAny_bind ?_
  show wpAny _ X.A.in1.in1 (updateSeq S (·.push .none) >>= fun _ => updateSeq S (·.pop)) _ _ _
  refine wpAny_bind (wpAny_updateSeq hS2 rfl ?_)
  have hS3 := Heap.get?_update_self (Obj.mapSeq (·.push Value.none)) hS2 rfl
  refine wpAny_updateSeq (hz := by seq_fits) hS3 rfl ?_
  have hS4 := Heap.get?_update_self (Obj.mapSeq (·.pop)) hS3 rfl
  have k4 := up _ (Obj.mapSeq (·.pop)) (up _ (Obj.mapSeq (·.push Value.none)) k2)
  refine wpAny_pure ⟨plainId_quiet PySem.F.plain_extend_loop _, ?_⟩
  have I3 : Inv X pins σ H1 { s1 with heap := ((((s1.heap.push { cls := .type "list", data := .seq #[] }).update S (Obj.mapSeq (fun _ => (#[] : Array Value)))).update S (Obj.mapSeq (·.push Value.none))).update S (Obj.mapSeq (·.pop))) } := I2.kept (t' := s1.toks) k4
  have pinL : ∀ p ∈ X.pn ++ pins, p.1 < L := fun p hp => Nat.lt_of_lt_of_le (Heap.lt_size (I1.pin p hp).1) q1
  have noC : ∀ x c, X.env.cells.lookup x = some c → c < L := fun x c z => by
    rw [hcell] at z
    cases z
  have szS : X.s_0.heap.objs.size ≤ S := Nat.le_trans I1.sz (Nat.le_of_lt (Nat.lt_of_le_of_lt q1 (Nat.lt_trans q2 q3)))
  refine drainT (X := X) (σ := σ) (pins := pins) (Fi := mk X.A.in1.in1.in1 [S]) (H0 := H1) (all := downT it n) (A := X.A.in1) hx (by rw [e5]; exact pinL) e1.symm e2.symm e3.symm e4.symm hr.hd hr.depth e8 e6 e7 (by rw [e5]; exact hLL) (by rw [e5]; exact noC) q3 (by rw [e5]; exact Nat.lt_trans q2 q3) szS (fun s' acc c H' ys I' gr hS0 hSo hv hT => ?_)
    n [L, a] [] H1 _ #[] _ [] [] I3 (Gr.refl _) (R0.on rfl (Gr.refl _) ?_ (fun b hb => ?_) rfl fun _ z => by cases z) ?_ nS hS4 .nil True.intro rfl (by simpa using hn)
  · have hl : ys.length ≤ sizeLine := by
      have z := hT.length
      rw [downT_len] at z
      rw [sizeLine_eq]
      omega
    have nLS : S ≠ X.env.locals := fun z => by
      have y := hLL
      rw [← z] at y
      exact absurd (Nat.lt_trans y (Nat.lt_trans q2 q3)) (Nat.lt_irrefl _)
    have J : Inv X pins σ (upd H' S (.lst ys)) s' := by
      have ns : ∀ b u, H' b = some u → b ≠ S := fun b u z y => by
        rw [y, hS0] at z
        cases z
      refine I'.step (g' := s'.gens) (t' := s'.toks) (d' := s'.drawn) (h' := s'.heap) (ch := [S]) (fun b hb => ?_) (fun b o _ _ _ z _ => z) (fun b o _ _ _ z _ => ⟨o.slots, z⟩) (fun b o hb z y => ?_) (fun b o _ z => ⟨o, z⟩) (fun b xs z => ?_) (fun b o u z => ?_) (fun b ps z => ⟨#[], ?_⟩) (fun _ z => z) (fun b u z => ?_) I'.bare
      · rw [List.mem_singleton.mp hb]
        refine ⟨.inr szS, nLS, fun x c z => ?_, fun p hp z => ?_⟩
        · rw [hcell] at z
          cases z
        · have y := pinL p hp
          rw [z] at y
          exact absurd (Nat.lt_trans y (Nat.lt_trans q2 q3)) (Nat.lt_irrefl _)
      · rw [upd_ne (fun z => hb (List.mem_singleton.mpr z))]
        exact y
      · rw [upd_ne (ns b _ z)]
        exact z
      · rw [upd_ne (ns b _ z)]
        exact z
      · rw [upd_ne (ns b _ z), z]
        simp
      · by_cases hb : b = S
        · subst hb
          rw [upd_same] at z
          cases z
          exact ⟨hl, acc.toList, c, hv, by rw [hSo]⟩
        · rw [upd_ne hb] at z
          exact (I'.hok b u z).stay (fun _ _ _ y => y) (fun d y => by rw [upd_ne (ns d _ y)]; exact y) fun d xs y => by rw [upd_ne (ns d _ y)]; exact y
    have gN : Gr H' (upd H' S (.lst ys)) := Gr.new hS0
    exact ⟨rfl, .ref S, _, J, rfl, hQ _ _ ((gr1.trans gr).trans gN) ⟨S, ys, rfl, upd_same, hT.mono gN⟩⟩
  · obtain ⟨o, ho, _⟩ := q12
    rw [k4 a o ho]
    exact ho.symm
  · rcases List.mem_cons.mp hb with e | hb
    · subst e
      obtain ⟨o, ho, _⟩ := q11
      exact ⟨by rw [k4 _ o ho]; exact ho.symm, I1.hok.fresh q1⟩
    · rw [List.mem_singleton.mp hb]
      obtain ⟨o, ho, _⟩ := q12
      exact ⟨by rw [k4 _ o ho]; exact ho.symm, I1.hok.fresh (Nat.le_of_lt (Nat.lt_of_le_of_lt q1 q2))⟩
  · intro z
    rcases List.mem_cons.mp z with e | z
    · exact absurd (e ▸ Nat.lt_trans q2 q3) (Nat.lt_irrefl _)
    · exact absurd ((List.mem_singleton.mp z) ▸ q3) (Nat.lt_irrefl _)
end K14
/-! KK: a def's promise, with what a call of it needs. -/
namespace K14
open PySem PySem.Spec PyProof.Rows L2

/-- a def under its name: its promise -/
structure Cal (P : Program) (w : World) (K : PySem.W.Frag) (mg : Str → Option Value) (base : Heap) (k : Nat) (x : Str) {ι : Type} (A : ι → List Ty) (R : ι → Ty) : Prop where
  ex : ∃ (f : Addr) (fd : FuncData) (ps : List Str), FnOk P w K mg base CX0 k f fd ps (spT A R) ∧ mg x = some (.ref f) ∧ PySem.W.keepIn K (.ref f) = true ∧ Binds K fd ps []
theorem Cal.sub {P : Program} {w : World} {K : PySem.W.Frag} {mg : Str → Option Value} {base : Heap} {k : Nat} {x : Str} {ι κ : Type} {A : ι → List Ty} {R : ι → Ty} {B : κ → List Ty} {S : κ → Ty} (C : Cal P w K mg base k x A R) (g : κ → ι) (h : ∀ j, A (g j) = B j ∧ R (g j) = S j) : Cal P w K mg base k x B S := by
  obtain ⟨f, fd, ps, h1, h2, h3, h4⟩ := C.ex
  refine ⟨f, fd, ps, ⟨fun vs H Q E ⟨j, hv, q⟩ => h1.len vs H Q E ⟨g j, by rw [(h j).1]; exact hv, by rw [(h j).2]; exact q⟩, fun A' outer s H args us vs Q E hr e0 hb r ⟨j, hv, q⟩ => h1.run A' outer s H args us vs Q E hr e0 hb r ⟨g j, by rw [(h j).1]; exact hv, by rw [(h j).2]; exact q⟩⟩, h2, h3, h4⟩
section
variable {X : Cx} {e : Expr} {es : List Expr} {pos p : Pos} {ρ : Rho} {x : Str} {k : Nat} {ι : Type} {A : ι → List Ty} {R : ι → Ty}
variable {P : Program} {w : World} {K : PySem.W.Frag} {mg : Str → Option Value} {base : Heap}
/-- X runs over this program and this top -/
def Of (X : Cx) (P : Program) (w : World) (K : PySem.W.Frag) (mg : Str → Option Value) (base : Heap) : Prop := X.prog = P ∧ X.w = w ∧ X.K = K ∧ X.mg = mg ∧ X.base = base
/-- f(e, ..) -/
theorem te_fn {i : ι} (C : Cal P w K mg base k x A R) (hr : Room k X.A) (ha : PA X (e :: es) (tTA ρ (A i))) (hX : Of X P w K mg base := by exact ⟨rfl, rfl, rfl, rfl, rfl⟩) (hg : Gl X x := by rfl) (he : starEach (e :: es) X.env = (false, eval e X.env) :: starEach es X.env := by rfl)
    (hpl : (backTo pos (starEach es X.env)).any (·.1) = false := by rfl) (hdb : (x == ("__debug__" : Str)) = false := by decide) : PE X (.Call (.Name x p) (e :: es) [] pos) (tT ρ (R i)) := by
  obtain ⟨h1, h2, h3, h4, h5⟩ := hX
  subst h1 h2 h3 h4 h5
  obtain ⟨f, fd, ps, h1, h2, h3, h4⟩ := C.ex
  exact te_call (Ds := []) h1 hr h2 h3 h4 .nil pass0 ha i (fun _ => True.intro) (List.append_nil _).symm hg he hpl hdb
theorem tt_fn {i : ι} {c : Bool} (C : Cal P w K mg base k x A R) (hr : Room k X.A) (hR : R i = dB X c) (ha : PA X (e :: es) (tTA ρ (A i))) (hX : Of X P w K mg base := by exact ⟨rfl, rfl, rfl, rfl, rfl⟩) (hg : Gl X x := by rfl) (he : starEach (e :: es) X.env = (false, eval e X.env) :: starEach es X.env := by rfl)
    (hpl : (backTo pos (starEach es X.env)).any (·.1) = false := by rfl) (hdb : (x == ("__debug__" : Str)) = false := by decide) (ht : ∀ whole, isTrue (.Call (.Name x p) (e :: es) [] pos) X.env whole = (do let v ← whole; standAt (Expr.pos (.Call (.Name x p) (e :: es) [] pos)); holding [v] (truthy v)) := by intro _; rfl) : PT X (.Call (.Name x p) (e :: es) [] pos) (tTB ρ c) :=
  tt_val (c := c) (by
    have z := te_fn (i := i) (pos := pos) (p := p) C hr ha hX hg he hpl hdb
    rw [hR] at z
    exact z) ht
end
section
variable {P : Program} {w : World} {K : PySem.W.Frag} {mg : Str → Option Value} {base : Heap} {x : Str} {params : Arguments} {body : List Stmt} {scope : Scope} {f : Addr} {fd : FuncData} {N ps : List Str} {k : Nat} {ι : Type} {Ai : ι → List Ty} {Ri : ι → Ty}
/-- a def without defaults, by its body -/
theorem cal_of (F : FunD K x x params body scope [] [] f fd) (hm : mg x = some (.ref f)) (S : FnScope N ps scope)
    (hbd : ∀ (kV doc pm : Value) (an : Option Addr) (cdv ct : Value) (us : List Value), us.length = ps.length → bindArgs (PySem.W.fnOf x x params body scope .none kV doc pm an cdv ct) ⟨us, []⟩ = pure (ps.zip us)) (hA : ∀ i, (Ai i).length = ps.length)
    (hb : ∀ (i : ι) (cdv : Value) (A : Around) (outer : List Env) (s : Shared) (H : Hp) (E : XK), Room k (A.deeper (envOfC x scope s.heap.objs.size f cdv)) →
      PSs (cxOf CX0 P w K mg base N x scope f cdv A outer s H E).nox body (tS (startR N.length (Ai i)) { nx := fun _ => ∀ H, (Ri i).p H .non, rt := Ri i })) : Cal P w K mg base (k + 1) x Ai Ri :=
  ⟨f, fd, ps, fn_T F S hA hb, hm, F.kp, F.bindsN hbd⟩
end
/-! ### lists of data by comprehension -/
theorem tyL_le {K : PySem.W.Frag} {ds : List PyData} {Ts : List Ty} (h : Ts = ds.map (tyD K)) : (tyL Ts).le (tyTL K ds) := by
  subst h
  exact tyL_data
theorem took_D {α : Type} (n : Nat) (p : Nat → Bool) (el : Nat → α) {β : Type} (f : α → β) : took n p (fun i => f (el i)) = (took n p el).map f := by
  unfold took
  rw [List.map_map]
  rfl
section
variable {X : Cx} {tg e elt : Expr} {ρ : Rho} {pos : Pos} {n : Nat} {item : Nat → Ty} {ifs : List Expr} {scope : Scope} {p : Nat → Bool} {nxt : Nat → Rho} {el : Nat → PyData} {ds : List PyData}
/-- [elt for tg in e if ..], each a datum -/
theorem te_lcD (own : List (Str × Nat)) (hc : X.calm = true) (hN : X.N.Nodup) (hi : PI X tg e (tI ρ n item)) (hn : n ≤ 1000000) (ok : BlkOk X.N X.env.scope scope own) (L : LcOk X tg elt ifs scope ρ (own.map (·.2)) n item p (fun i => tyD X.K (el i)) nxt) (hd : took n p el = ds)
    (hs : ∀ x, foldedSetIterable e X.env x = pure x := by intro _; rfl) : PE X (.ListComp elt [⟨tg, e, ifs, 0⟩] scope pos) (tT ρ (tyTL X.K ds)) :=
  te_le (te_lc own hc hN hi hn ok L hs) (tyL_le (by rw [took_D n p el (tyD X.K), hd]))
theorem te_lcL (own : List (Str × Nat)) (hc : X.calm = true) (hN : X.N.Nodup) (hi : PI X tg e (tI ρ n item)) (hn : n ≤ 1000000) (ok : BlkOk X.N X.env.scope scope own) (L : LcOk X tg elt ifs scope ρ (own.map (·.2)) n item p (fun i => tyD X.K (el i)) nxt) (hd : took n p el = ds)
    (hs : ∀ x, foldedSetIterable e X.env x = pure x := by intro _; rfl) : PE X (.ListComp elt [⟨tg, e, ifs, 0⟩] scope pos) (tT ρ (tyD X.K (.list ds))) :=
  te_le (te_lcD own hc hN hi hn ok L hd hs) tyTL_le
end
end K14
/-! KL: the program's defs by their places; the first promises. -/
namespace K14
open PySem PySem.Spec PyProof.Rows L2

def top (i : Nat) : Stmt := PySem.Challenge.pw_paircuts_k14_whole_objects_are_functions.main.body.getD i (.Pass ⟨0, 0, 0, 0⟩)
abbrev bodyAt (i : Nat) : List Stmt := defBody (top i)
abbrev scopeAt (i : Nat) : Scope := defScope (top i)
abbrev argsAt (i : Nat) : Arguments := defArgs (top i)
/-- the i-th statement of the top is the def x, at f -/
abbrev DefAt (K : PySem.W.Frag) (x : Str) (i : Nat) (f : Addr) (fd : FuncData) : Prop := FunD K x x (argsAt i) (bodyAt i) (scopeAt i) [] [] f fd
section
variable {P : Program} {w : World} {K : PySem.W.Frag} {mg : Str → Option Value} {base : Heap} {f : Addr} {fd : FuncData}
/-! is_integer -/
theorem sc10 : FnScope ["thing"] ["thing"] (scopeAt 10) := ⟨rfl, rfl, rfl, by decide +kernel, rfl, by decide +kernel, by decide +kernel⟩
theorem ok_is_integer (F : DefAt K "is_integer" 10 f fd) (hm : mg "is_integer" = some (.ref f)) (hisi : mg "isinstance" = none) (hint : mg "int" = none) (hbool : mg "bool" = none) :
    Cal P w K mg base 1 "is_integer" (fun i : Int => [tyD K (.int i)]) (fun _ => tyD K (.bool true)) := by
  refine cal_of F hm sc10 (fun kV doc pm an cdv ct us hl => ?_) (fun _ => rfl) fun i cdv A outer s H E hr => ?_
  · match us, hl with
    | [a], _ => rfl
  · exact ts_one (ts_ret (te_and (c := true) (d := true) (te_isi hisi (te_var 0) hint PyProof.Rows.boot_int rfl) fun _ => te_one (te_not (c := false) (te_isi hisi (te_var 0) hbool PyProof.Rows.boot_bool rfl))))
end
end K14
/-! KZ: enumerate over a tuple, over a zip of two tuples. -/
namespace K14
open PySem PySem.Spec PyProof.Rows L2
open Sem (wp)
/-- an iterator whose records stand at fp: it hands out n values -/
structure Inn (P : Program) (w : World) (it : Addr) (fp : List Addr) (st : Nat → Heap → Prop) (src : Heap → Prop) (n : Nat) (val : Nat → Heap → Value → Heap → Prop) : Prop where
  mem : it ∈ fp
  there : ∀ i h, st i h → ∀ b ∈ fp, ∃ o, h.get? b = some o ∧ ∀ v, o.data ≠ .cell v
  frame : ∀ i h h', st i h → (∀ b ∈ fp, ∀ o, h.get? b = some o → h'.get? b = some o) → st i h'
  item : ∀ (A : Around) (i : Nat) (s : Shared) (Q : Value → Shared → Prop) (E : Value → Shared → Prop), i < n → st i s.heap → src s.heap → (∀ u h', st (i + 1) h' → val i s.heap u h' → s.heap.objs.size ≤ h'.objs.size → (∀ b o, b ∉ fp → s.heap.get? b = some o → h'.get? b = some o) → Q u { s with heap := h' }) →
    wpAny (model P w) A (Builtin.SmallTypes.nextOf (.ref it)) Q E s
  done : ∀ (A : Around) (i : Nat) (s : Shared) (Q : Value → Shared → Prop) (E : Value → Shared → Prop), A.handled = none → n ≤ i → st i s.heap → src s.heap → (∀ h' e, (∀ b o, b ∉ fp → s.heap.get? b = some o → h'.get? b = some o) → (∃ o, h'.get? e = some o ∧ o.cls = .type "StopIteration") → E (.ref e) { s with heap := h' }) →
    wpAny (model P w) A (Builtin.SmallTypes.nextOf (.ref it)) Q E s
section
variable {P : Program} {w : World} {A : Around} {E : Value → Shared → Prop} {s : Shared} {it e : Addr} {fp : List Addr} {st : Nat → Heap → Prop} {src : Heap → Prop} {n : Nat} {val : Nat → Heap → Value → Heap → Prop}
theorem enum_item {i : Nat} {old : Value} {Q : Option Value → Shared → Prop} (N : Inn P w it fp st src n val) (he : IsEnum s.heap e it (i : Int) old) (hi : i < n) (hst : st i s.heap) (hsrc : src s.heap) (hne : e ∉ fp)
    (hQ : ∀ u h1 h', val i s.heap u h1 → s.heap.objs.size ≤ h1.objs.size → (∀ b o, b ∉ fp → s.heap.get? b = some o → h1.get? b = some o) → (∀ b o, b ≠ e → h1.get? b = some o → h'.get? b = some o) → IsEnumOut h' e it ((i : Int) + 1) u h1.objs.size → st (i + 1) h' →
      h'.get? h1.objs.size = some { cls := .type "tuple", data := .seq #[.int i s.toks, u] } → h'.objs.size = h1.objs.size + 1 → Q (some (.ref h1.objs.size)) { s with heap := h', toks := s.toks + 1 }) : wpAny (model P w) A (pyNext (.ref e)) Q E s := by
  have hT : s.TypeIs (.ref e) "enumerate" := ⟨_, he, rfl⟩
  unfold pyNext
  refine wpAny_bind (wpAny_attempt (wpAny_callSpecial?_slot (name := Str.ofString "__next__") hT PySem.F.slot_enumerate_next (wpAny_call_entry PySem.F.slot_enumerate_next hT PySem.F.entry_enumerate_next ?_ (PySem.F.args_enumerate_next_1 _))))
  obtain ⟨hp, g, d, tk, os⟩ := s
  show wpAny _ _ (field (.ref e) 2 >>= _) _ _ _
  refine wpAny_bind (wpAny_field he rfl (x := .ref it) rfl ?_)
  refine wpAny_bind (N.item _ i _ _ _ hi hst hsrc fun u h1 st1 hv hsz1 k1 => ?_)
  have e1 : IsEnum h1 e it (i : Int) old := k1 e _ hne he
  have el : e < h1.objs.size := Heap.lt_size e1
  show wpAny _ _ (field (.ref e) 3 >>= _) _ _ ⟨h1, g, d, tk, os⟩
  refine wpAny_bind (wpAny_field e1 rfl (x := rawInt i) rfl ?_)
  show wpAny _ _ (field (.ref e) 4 >>= _) _ _ ⟨h1, g, d, tk, os⟩
  refine wpAny_bind (wpAny_field e1 rfl (x := .none) rfl ?_)
  show wpAny _ _ (mkInt i >>= _) _ _ ⟨h1, g, d, tk, os⟩
  refine wpAny_bind (wpAny_mkInt ?_)
  show wpAny _ _ (setField (.ref e) 3 (rawInt ((i : Int) + 1)) >>= _) _ _ ⟨h1, g, d, tk + 1, os⟩
  refine wpAny_bind (wpAny_setField_rec e1 (by simp) fun h2 e2 s2 => ?_)
  replace s2 : Heap.SameBut e h1 h2 := s2
  replace e2 : IsEnum h2 e it ((i : Int) + 1) old := e2
  show wpAny _ _ (setField (.ref e) 4 .none >>= _) _ _ ⟨h2, g, d, tk + 1, os⟩
  refine wpAny_bind (wpAny_setField_rec e2 (by simp) fun h3 e3 s3 => ?_)
  replace s3 : Heap.SameBut e h2 h3 := s3
  replace e3 : IsEnum h3 e it ((i : Int) + 1) old := e3
  have z3 : h3.objs.size = h1.objs.size := by rw [s3.1, s2.1]
  show wpAny _ _ (newTuple [.int i tk, u] >>= _) _ _ ⟨h3, g, d, tk + 1, os⟩
  refine wpAny_bind (wpAny_newTuple ?_)
  have e4 : IsEnum (h3.push { cls := .type "tuple", data := .seq #[.int i tk, u] }) e it ((i : Int) + 1) old := Heap.get?_push_of_some _ e3
  have k4 : ∀ b o, b ≠ e → h1.get? b = some o → (h3.push { cls := .type "tuple", data := .seq #[.int i tk, u] }).get? b = some o := fun b o hb q => Heap.get?_push_of_some _ ((s3.2 b hb).trans ((s2.2 b hb).trans q))
  have t4 : (h3.push { cls := .type "tuple", data := .seq #[.int i tk, u] }).get? h1.objs.size = some { cls := .type "tuple", data := .seq #[.int i tk, u] } := by
    rw [← z3]
    exact Heap.get?_push_size _ rfl
  have z4 : (h3.push { cls := .type "tuple", data := .seq #[.int i tk, u] }).objs.size = h1.objs.size + 1 := by rw [Heap.size_push, z3]
  show wpAny _ _ (Builtin.SmallTypes.ownedTupleIsFree (.ref e) >>= _) _ _ ⟨h3.push _, g, d, tk + 1, os⟩
  rw [z3]
  generalize h3.push { cls := .type "tuple", data := .seq #[.int i tk, u] } = h4 at e4 k4 t4 z4
  refine wpAny_bind ?_
  unfold Builtin.SmallTypes.ownedTupleIsFree
  refine wpAny_bind (wpAny_field e4 rfl (x := .none) rfl (wpAny_pure ?_))
  simp only [if_true]
  refine wpAny_bind (wpAny_rule ?_)
  refine wpAny_bind (wpAny_field e4 rfl (x := old) rfl ?_)
  refine wpAny_bind (wpAny_setField_rec e4 (by simp) fun h5 e5 s5 => ?_)
  replace s5 : Heap.SameBut e h4 h5 := s5
  replace e5 : IsEnum h5 e it ((i : Int) + 1) u := e5
  show wpAny _ _ (Builtin.SmallTypes.ownedTupleHandOut (.ref e) (.ref h1.objs.size) >>= _) _ _ ⟨h5, g, d, tk + 1, os⟩
  refine wpAny_bind ?_
  unfold Builtin.SmallTypes.ownedTupleHandOut
  refine wpAny_bind (wpAny_setField_rec e5 (by simp) fun h6 e6 s6 => ?_)
  replace s6 : Heap.SameBut e h5 h6 := s6
  replace e6 : IsEnumOut h6 e it ((i : Int) + 1) u h1.objs.size := e6
  refine wpAny_setField_rec e6 (by simp) fun h7 e7 s7 => ?_
  replace s7 : Heap.SameBut e h6 h7 := s7
  replace e7 : IsEnumOut h7 e it ((i : Int) + 1) u h1.objs.size := e7
  have k7 : ∀ b o, b ≠ e → h4.get? b = some o → h7.get? b = some o := fun b o hb q => (s7.2 b hb).trans ((s6.2 b hb).trans ((s5.2 b hb).trans q))
  refine wpAny_bind (wpAny_letGo (wpAny_pure ⟨_, rfl, wpAny_pure (hQ u h1 h7 hv hsz1 k1 (fun b o hb q => k7 b o hb (k4 b o hb q)) e7 ?_ (k7 _ _ (Nat.ne_of_gt el) t4) ?_)⟩))
  · exact N.frame (i + 1) h1 h7 st1 fun b hb o q => k7 b o (fun z => hne (z ▸ hb)) (k4 b o (fun z => hne (z ▸ hb)) q)
  · rw [s7.1, s6.1, s5.1, z4]
theorem enum_done {i : Nat} {old : Value} {j : Int} {Q : Option Value → Shared → Prop} (hh : A.handled = none) (N : Inn P w it fp st src n val) (he : IsEnum s.heap e it j old) (hi : n ≤ i) (hst : st i s.heap) (hsrc : src s.heap) (hQ : ∀ h', (∀ b o, b ∉ fp → s.heap.get? b = some o → h'.get? b = some o) → Q none { s with heap := h' }) : wpAny (model P w) A (pyNext (.ref e)) Q E s := by
  have hT : s.TypeIs (.ref e) "enumerate" := ⟨_, he, rfl⟩
  unfold pyNext
  refine wpAny_bind (wpAny_attempt (wpAny_callSpecial?_slot (name := Str.ofString "__next__") hT PySem.F.slot_enumerate_next (wpAny_call_entry PySem.F.slot_enumerate_next hT PySem.F.entry_enumerate_next ?_ (PySem.F.args_enumerate_next_1 _))))
  show wpAny _ _ (field (.ref e) 2 >>= _) _ _ _
  refine wpAny_bind (wpAny_field he rfl (x := .ref it) rfl ?_)
  refine wpAny_bind (N.done _ i _ _ _ hh hi hst hsrc fun h' x k hx => ?_)
  obtain ⟨o, ho, hc⟩ := hx
  refine wpAny_bind (wpAny_isInstance (T := "StopIteration") (b := true) ⟨o, ho, hc⟩ isSubtype_stop ?_)
  exact wpAny_pure (hQ _ k)
end
/-- the iterator of a tuple -/
theorem inn_tup {P : Program} {w : World} {a it : Addr} {its : List Value} : Inn P w it [it] (fun i h => h.IsTupleIter it a i) (fun h => h.IsTuple a its.toArray) its.length (fun i _ u _ => its[i]? = some u) where
  mem := List.mem_singleton.mpr rfl
  there := fun i h st b hb => by
    obtain ⟨o, h1, h2, h3⟩ := st
    rw [List.mem_singleton.mp hb]
    exact ⟨o, h1, fun v z => by rw [h3] at z; cases z⟩
  frame := fun i h h' ⟨o, h1, h2⟩ k => ⟨o, k it (List.mem_singleton.mpr rfl) o h1, h2⟩
  item := fun A i s Q E hi st hs hQ => by
    refine RZ.nextOf_tuple_item st hs (x := its[i]) (by simp [hi]) fun h' st' sb => hQ _ h' st' (List.getElem?_eq_getElem hi) (Nat.le_of_eq sb.1.symm) fun b o hb e => ?_
    exact (sb.2 b (fun z => hb (List.mem_singleton.mpr z))).trans e
  done := fun A i s Q E hh hi st hs hE => by
    refine RZ.nextOf_tuple_end hh st hs (by simp; omega) fun h' e k hx => hE h' e (fun b o hb q => ?_) hx
    exact k b o (fun z => hb (List.mem_singleton.mpr z)) q
/-! ### zip of two tuples, its own tuple free or not -/
abbrev Zp (h : Heap) (z TI TO : Addr) (f0 f1 : Value) : Prop := h.get? z = some { cls := .type "zip", dict := none, data := .fields #[f0, f1, .bool false, .ref TI, .ref TO], slots := #[] }
section
variable {P : Program} {w : World} {A : Around} {E : Value → Shared → Prop} {s : Shared} {z TI TO i1 i2 l1 l2 : Addr}
theorem alive_any {a : Addr} {Q : Option Obj → Shared → Prop} (h : Q (s.heap.get? a) s) : wpAny (model P w) A (loadIfAlive a) Q E s := fun Γ p hΓ => by
  unfold loadIfAlive
  rw [Sem.wp_loadIfAlive]
  exact wpAny_pure h Γ p hΓ
/-- is its own tuple free? -/
theorem zp_free {f0 : Value} {c : Bool} {Q : Bool → Shared → Prop} (hz : Zp s.heap z TI TO f0 (.bool c)) (hf : f0 = .none ∨ ∃ T : Addr, f0 = rawInt T)
    (h : ∀ b h' c', Zp h' z TI TO f0 (.bool c') → (∀ x, x ≠ z → h'.get? x = s.heap.get? x) → h'.objs.size = s.heap.objs.size → Q b { s with heap := h' }) : wpAny (model P w) A (Builtin.SmallTypes.ownedTupleIsFree (.ref z)) Q E s := by
  unfold Builtin.SmallTypes.ownedTupleIsFree
  rcases hf with e | ⟨T, e⟩
  · subst e
    refine wpAny_bind (wpAny_field hz rfl (x := .none) rfl (wpAny_pure ?_))
    exact h true s.heap c hz (fun _ _ => rfl) rfl
  · subst e
    refine wpAny_bind (wpAny_field hz rfl (x := rawInt T) rfl ?_)
    show wpAny _ _ (loadIfAlive ((T : Int).toNat) >>= _) _ _ _
    refine wpAny_bind (alive_any ?_)
    cases s.heap.get? ((T : Int).toNat) with
    | none => exact wpAny_pure (h true s.heap c hz (fun _ _ => rfl) rfl)
    | some o =>
      show wpAny _ _ (do
        if (← field (.ref z) 1) != .bool true then setField (.ref z) 1 (.bool true)
        return false) _ _ _
      refine wpAny_bind (wpAny_field hz rfl (x := .bool c) rfl ?_)
      cases c with
      | true =>
        rw [if_neg (by decide)]
        exact wpAny_pure (h false s.heap true hz (fun _ _ => rfl) rfl)
      | false =>
        rw [if_pos (by decide)]
        refine wpAny_bind (wpAny_setField_rec hz (by simp) fun h1 z1 s1 => wpAny_pure ?_)
        exact h false h1 true z1 (fun x hx => s1.2 x hx) s1.1
/-- the next pair -/
theorem zp_item {f0 : Value} {c : Bool} {k1 k2 : Nat} {xs ys : Array Value} {x y a b : Value} {Q : Value → Shared → Prop} (D : ZipApart z TI TO i1 i2 l1 l2) (hz : Zp s.heap z TI TO f0 (.bool c)) (hf : f0 = .none ∨ ∃ T : Addr, f0 = rawInt T) (hTI : IsPair s.heap TI (.ref i1) (.ref i2)) (hTO : IsPair s.heap TO a b)
    (h1 : s.heap.IsTupleIter i1 l1 k1) (h2 : s.heap.IsTupleIter i2 l2 k2) (hl1 : s.heap.IsTuple l1 xs) (hl2 : s.heap.IsTuple l2 ys) (hx : xs[k1]? = some x) (hy : ys[k2]? = some y)
    (hQ : ∀ h' f0' c' T a' b', Zp h' z TI TO f0' (.bool c') → (f0' = .none ∨ ∃ T : Addr, f0' = rawInt T) → IsPair h' TI (.ref i1) (.ref i2) → IsPair h' TO a' b' → h'.IsTupleIter i1 l1 (k1 + 1) → h'.IsTupleIter i2 l2 (k2 + 1) → s.heap.objs.size ≤ T → IsPair h' T x y → s.heap.objs.size ≤ h'.objs.size →
      (∀ q o, q ≠ z → q ≠ TI → q ≠ TO → q ≠ i1 → q ≠ i2 → s.heap.get? q = some o → h'.get? q = some o) → Q (.ref T) { s with heap := h' }) :
    wpAny (model P w) A (Builtin.«zip.__next__» ⟨[.ref z], []⟩) (fun fin s' => ∃ v, fin = .done (.ret v) ∧ Q v s') E s := by
  show wpAny _ _ (field (.ref z) 2 >>= _) _ _ _
  refine wpAny_bind (wpAny_field hz rfl (x := .bool false) rfl ?_)
  show wpAny _ _ (field (.ref z) 3 >>= _) _ _ _
  refine wpAny_bind (wpAny_field hz rfl (x := .ref TI) rfl ?_)
  refine wpAny_bind (wpAny_seqItems hTI rfl ?_)
  show wpAny _ _ (Builtin.SmallTypes.ownedTupleIsFree (.ref z) >>= _) _ _ _
  refine wpAny_bind (zp_free hz hf fun fr h' c' hz' far sz => ?_)
  have ne : ∀ {q : Addr} {o : Obj}, q ≠ z → s.heap.get? q = some o → h'.get? q = some o := fun {q o} hq e => (far q hq).trans e
  have gTI : IsPair h' TI (.ref i1) (.ref i2) := ne D.TIz hTI
  have gTO : IsPair h' TO a b := ne D.TOz hTO
  have g1 : h'.IsTupleIter i1 l1 k1 := h1.at fun o e => ne D.i1z e
  have g2 : h'.IsTupleIter i2 l2 k2 := h2.at fun o e => ne D.i2z e
  have m1 : h'.IsTuple l1 xs := hl1.at fun o e => ne D.l1z e
  have m2 : h'.IsTuple l2 ys := hl2.at fun o e => ne D.l2z e
  cases fr with
  | true =>
    rw [if_pos rfl]
    refine wpAny_bind (wpAny_rule ?_)
    refine wpAny_bind (wpAny_field hz' rfl (x := .ref TO) rfl ?_)
    refine wpAny_bind (wpAny_setField_rec hz' (by simp) fun a1 az1 as1 => ?_)
    replace az1 : Zp a1 z TI TO .ellipsis (.bool c') := az1
    replace as1 : Heap.SameBut z h' a1 := as1
    refine wpAny_bind ?_
    simp only [List.zipIdx_cons, List.zipIdx_nil, List.forIn_cons, List.forIn_nil]
    refine wpAny_bind (wpAny_bind (wpAny_onRaise ?_))
    show wpAny _ _ (Builtin.SmallTypes.nextOf (.ref i1) >>= _) _ _ _
    refine wpAny_bind (RZ.nextOf_tuple_item (g1.extBut as1.extBut D.i1z) (m1.extBut as1.extBut D.l1z) hx fun a2 b1 as2 => wpAny_pure ?_)
    have t2 : IsPair a2 TO a b := as2.extBut _ _ D.TOi1 (as1.extBut _ _ D.TOz gTO)
    refine wpAny_bind (wpAny_seqItems t2 rfl ?_)
    refine wpAny_bind (wpAny_updateSeq_pair t2 fun a3 t3 as3 => ?_)
    replace t3 : IsPair a3 TO x b := t3
    refine wpAny_bind (wpAny_letGo (wpAny_pure ?_))
    refine wpAny_bind (wpAny_bind (wpAny_onRaise ?_))
    show wpAny _ _ (Builtin.SmallTypes.nextOf (.ref i2) >>= _) _ _ _
    refine wpAny_bind (RZ.nextOf_tuple_item (((g2.extBut as1.extBut D.i2z).extBut as2.extBut D.i12.symm).extBut as3.extBut D.TOi2.symm) (((m2.extBut as1.extBut D.l2z).extBut as2.extBut D.l2i1).extBut as3.extBut D.l2TO) hy fun a4 b2 as4 => wpAny_pure ?_)
    have t4 : IsPair a4 TO x b := as4.extBut _ _ D.TOi2 t3
    refine wpAny_bind (wpAny_seqItems t4 rfl ?_)
    refine wpAny_bind (wpAny_updateSeq_pair t4 fun a5 t5 as5 => ?_)
    replace t5 : IsPair a5 TO x y := t5
    refine wpAny_bind (wpAny_letGo (wpAny_pure (wpAny_pure ?_)))
    refine wpAny_bind (wpAny_seqItems t5 rfl ?_)
    refine wpAny_bind (wpAny_newTuple ?_)
    have z5 : a5.objs.size = s.heap.objs.size := by rw [as5.1, as4.1, as3.1, as2.1, as1.1, sz]
    have zz5 : Zp a5 z TI TO .ellipsis (.bool c') := as5.extBut _ _ D.TOz.symm (as4.extBut _ _ D.i2z.symm (as3.extBut _ _ D.TOz.symm (as2.extBut _ _ D.i1z.symm az1)))
    have far5 : ∀ q o, q ≠ z → q ≠ TO → q ≠ i1 → q ≠ i2 → s.heap.get? q = some o → a5.get? q = some o := fun q o y1 y2 y3 y4 e => as5.extBut _ _ y2 (as4.extBut _ _ y4 (as3.extBut _ _ y2 (as2.extBut _ _ y3 (as1.extBut _ _ y1 (ne y1 e)))))
    have n1 : a5.IsTupleIter i1 l1 (k1 + 1) := ((b1.extBut as3.extBut D.TOi1.symm).extBut as4.extBut D.i12).extBut as5.extBut D.TOi1.symm
    have n2 : a5.IsTupleIter i2 l2 (k2 + 1) := b2.extBut as5.extBut D.TOi2.symm
    have nTI : IsPair a5 TI (.ref i1) (.ref i2) := far5 TI _ D.TIz D.TITO D.TIi1 D.TIi2 hTI
    show wpAny _ _ (Builtin.SmallTypes.ownedTupleHandOut (.ref z) (.ref a5.objs.size) >>= _) _ _ _
    refine wpAny_bind ?_
    unfold Builtin.SmallTypes.ownedTupleHandOut
    have zz6 : Zp (a5.push { cls := .type "tuple", data := .seq #[x, y] }) z TI TO .ellipsis (.bool c') := Heap.get?_push_of_some _ zz5
    refine wpAny_bind (wpAny_setField_rec zz6 (by simp) fun a7 zz7 as7 => ?_)
    replace zz7 : Zp a7 z TI TO (rawInt a5.objs.size) (.bool c') := zz7
    refine wpAny_setField_rec zz7 (by simp) fun a8 zz8 as8 => ?_
    replace zz8 : Zp a8 z TI TO (rawInt a5.objs.size) (.bool false) := zz8
    have zl : z < a5.objs.size := Heap.lt_size zz5
    have up : ∀ q o, q ≠ z → a5.get? q = some o → a8.get? q = some o := fun q o y1 e => as8.extBut _ _ y1 (as7.extBut _ _ y1 (Heap.get?_push_of_some _ e))
    have tT : IsPair a8 a5.objs.size x y := as8.extBut _ _ (Nat.ne_of_gt zl) (as7.extBut _ _ (Nat.ne_of_gt zl) (Heap.get?_push_size _ rfl))
    refine wpAny_pure ⟨_, rfl, ?_⟩
    refine hQ a8 _ false a5.objs.size x y zz8 (.inr ⟨_, rfl⟩) (up _ _ D.TIz nTI) (up _ _ D.TOz t5) (n1.at fun o e => up _ o D.i1z e) (n2.at fun o e => up _ o D.i2z e) (Nat.le_of_eq z5.symm) tT ?_ fun q o y1 _ y2 y3 y4 e => up q o y1 (far5 q o y1 y2 y3 y4 e)
    have q8 : a8.objs.size = a5.objs.size + 1 := by rw [as8.1, as7.1, Heap.size_push]
    rw [q8, z5]
    exact Nat.le_succ _
  | false =>
    rw [if_neg Bool.false_ne_true]
    refine wpAny_bind ?_
    simp only [Array.forIn_toList.symm, List.forIn_cons, List.forIn_nil]
    refine wpAny_bind (wpAny_bind (wpAny_holding ?_))
    show wpAny _ _ (Builtin.SmallTypes.nextOf (.ref i1) >>= _) _ _ _
    refine wpAny_bind (RZ.nextOf_tuple_item g1 m1 hx fun a2 b1 as2 => wpAny_pure ?_)
    refine wpAny_pure ?_
    refine wpAny_bind (wpAny_bind (wpAny_holding ?_))
    show wpAny _ _ (Builtin.SmallTypes.nextOf (.ref i2) >>= _) _ _ _
    refine wpAny_bind (RZ.nextOf_tuple_item (g2.extBut as2.extBut D.i12.symm) (m2.extBut as2.extBut D.l2i1) hy fun a4 b2 as4 => wpAny_pure ?_)
    refine wpAny_pure ?_
    refine wpAny_pure ?_
    show wpAny _ _ (newTuple [x, y] >>= _) _ _ _
    refine wpAny_bind (wpAny_newTuple ?_)
    have zz : Zp a4 z TI TO f0 (.bool c') := as4.extBut _ _ D.i2z.symm (as2.extBut _ _ D.i1z.symm hz')
    have far4 : ∀ q o, q ≠ z → q ≠ i1 → q ≠ i2 → s.heap.get? q = some o → a4.get? q = some o := fun q o y1 y3 y4 e => as4.extBut _ _ y4 (as2.extBut _ _ y3 (ne y1 e))
    have up : ∀ q o, a4.get? q = some o → (a4.push { cls := .type "tuple", data := .seq #[x, y] }).get? q = some o := fun q o e => Heap.get?_push_of_some _ e
    have z4 : a4.objs.size = s.heap.objs.size := by rw [as4.1, as2.1, sz]
    refine wpAny_pure ⟨_, rfl, ?_⟩
    refine hQ _ f0 c' a4.objs.size a b (up _ _ zz) hf (up _ _ (far4 TI _ D.TIz D.TIi1 D.TIi2 hTI)) (up _ _ (far4 TO _ D.TOz D.TOi1 D.TOi2 hTO)) ((b1.extBut as4.extBut D.i12).at fun o e => up _ o e) (b2.at fun o e => up _ o e) (Nat.le_of_eq z4.symm) (Heap.get?_push_size _ rfl) ?_ fun q o y1 _ y2 y3 y4 e => up q o (far4 q o y1 y3 y4 e)
    rw [Heap.size_push, z4]
    exact Nat.le_succ _
/-- no more pairs -/
theorem zp_done {f0 : Value} {c : Bool} {k1 k2 : Nat} {xs ys : Array Value} {a b : Value} {Q : Fin → Shared → Prop} (hh : A.handled = none) (D : ZipApart z TI TO i1 i2 l1 l2) (hz : Zp s.heap z TI TO f0 (.bool c)) (hf : f0 = .none ∨ ∃ T : Addr, f0 = rawInt T) (hTI : IsPair s.heap TI (.ref i1) (.ref i2)) (hTO : IsPair s.heap TO a b)
    (h1 : s.heap.IsTupleIter i1 l1 k1) (h2 : s.heap.IsTupleIter i2 l2 k2) (hl1 : s.heap.IsTuple l1 xs) (hl2 : s.heap.IsTuple l2 ys) (hend : xs[k1]? = none ∨ ys[k2]? = none)
    (hE : ∀ h' e, (∀ q o, q ≠ z → q ≠ TI → q ≠ TO → q ≠ i1 → q ≠ i2 → s.heap.get? q = some o → h'.get? q = some o) → (∃ o, h'.get? e = some o ∧ o.cls = .type "StopIteration") → E (.ref e) { s with heap := h' }) :
    wpAny (model P w) A (Builtin.«zip.__next__» ⟨[.ref z], []⟩) Q E s := by
  show wpAny _ _ (field (.ref z) 2 >>= _) _ _ _
  refine wpAny_bind (wpAny_field hz rfl (x := .bool false) rfl ?_)
  show wpAny _ _ (field (.ref z) 3 >>= _) _ _ _
  refine wpAny_bind (wpAny_field hz rfl (x := .ref TI) rfl ?_)
  refine wpAny_bind (wpAny_seqItems hTI rfl ?_)
  show wpAny _ _ (Builtin.SmallTypes.ownedTupleIsFree (.ref z) >>= _) _ _ _
  refine wpAny_bind (zp_free hz hf fun fr h' c' hz' far sz => ?_)
  have ne : ∀ {q : Addr} {o : Obj}, q ≠ z → s.heap.get? q = some o → h'.get? q = some o := fun {q o} hq e => (far q hq).trans e
  have gTO : IsPair h' TO a b := ne D.TOz hTO
  have g1 : h'.IsTupleIter i1 l1 k1 := h1.at fun o e => ne D.i1z e
  have g2 : h'.IsTupleIter i2 l2 k2 := h2.at fun o e => ne D.i2z e
  have m1 : h'.IsTuple l1 xs := hl1.at fun o e => ne D.l1z e
  have m2 : h'.IsTuple l2 ys := hl2.at fun o e => ne D.l2z e
  cases fr with
  | true =>
    rw [if_pos rfl]
    refine wpAny_bind (wpAny_rule ?_)
    refine wpAny_bind (wpAny_field hz' rfl (x := .ref TO) rfl ?_)
    refine wpAny_bind (wpAny_setField_rec hz' (by simp) fun a1 az1 as1 => ?_)
    replace az1 : Zp a1 z TI TO .ellipsis (.bool c') := az1
    replace as1 : Heap.SameBut z h' a1 := as1
    refine wpAny_bind ?_
    simp only [List.zipIdx_cons, List.zipIdx_nil, List.forIn_cons, List.forIn_nil]
    refine wpAny_bind (wpAny_bind (wpAny_onRaise ?_))
    show wpAny _ _ (Builtin.SmallTypes.nextOf (.ref i1) >>= _) _ _ _
    cases hx : xs[k1]? with
    | none =>
      refine wpAny_bind (RZ.nextOf_tuple_end hh (g1.extBut as1.extBut D.i1z) (m1.extBut as1.extBut D.l1z) hx fun a2 e as2 he => ?_)
      obtain ⟨oe, hoe, hce⟩ := he
      have az2 : Zp a2 z TI TO .ellipsis (.bool c') := as2 _ _ D.i1z.symm az1
      have hez : e ≠ z := fun q => by
        subst q
        rw [az2] at hoe
        cases hoe
        simp at hce
      refine wpAny_setField_rec az2 (by simp) fun a3 _ as3 => hE a3 e (fun q o y1 _ _ y3 _ e => as3.extBut _ _ y1 (as2 _ _ y3 (as1.extBut _ _ y1 (ne y1 e)))) ⟨oe, as3.extBut _ _ hez hoe, hce⟩
    | some x =>
      have hy : ys[k2]? = none := hend.resolve_left (by rw [hx]; exact fun q => by cases q)
      refine wpAny_bind (RZ.nextOf_tuple_item (g1.extBut as1.extBut D.i1z) (m1.extBut as1.extBut D.l1z) hx fun a2 b1 as2 => wpAny_pure ?_)
      have t2 : IsPair a2 TO a b := as2.extBut _ _ D.TOi1 (as1.extBut _ _ D.TOz gTO)
      refine wpAny_bind (wpAny_seqItems t2 rfl ?_)
      refine wpAny_bind (wpAny_updateSeq_pair t2 fun a3 t3 as3 => ?_)
      refine wpAny_bind (wpAny_letGo (wpAny_pure ?_))
      refine wpAny_bind (wpAny_bind (wpAny_onRaise ?_))
      show wpAny _ _ (Builtin.SmallTypes.nextOf (.ref i2) >>= _) _ _ _
      refine wpAny_bind (RZ.nextOf_tuple_end hh (((g2.extBut as1.extBut D.i2z).extBut as2.extBut D.i12.symm).extBut as3.extBut D.TOi2.symm) (((m2.extBut as1.extBut D.l2z).extBut as2.extBut D.l2i1).extBut as3.extBut D.l2TO) hy fun a4 e as4 he => ?_)
      obtain ⟨oe, hoe, hce⟩ := he
      have az4 : Zp a4 z TI TO .ellipsis (.bool c') := as4 _ _ D.i2z.symm (as3.extBut _ _ D.TOz.symm (as2.extBut _ _ D.i1z.symm az1))
      have hez : e ≠ z := fun q => by
        subst q
        rw [az4] at hoe
        cases hoe
        simp at hce
      refine wpAny_setField_rec az4 (by simp) fun a5 _ as5 => hE a5 e (fun q o y1 _ y2 y3 y4 e => as5.extBut _ _ y1 (as4 _ _ y4 (as3.extBut _ _ y2 (as2.extBut _ _ y3 (as1.extBut _ _ y1 (ne y1 e)))))) ⟨oe, as5.extBut _ _ hez hoe, hce⟩
  | false =>
    rw [if_neg Bool.false_ne_true]
    refine wpAny_bind ?_
    simp only [Array.forIn_toList.symm, List.forIn_cons, List.forIn_nil]
    refine wpAny_bind (wpAny_bind (wpAny_holding ?_))
    show wpAny _ _ (Builtin.SmallTypes.nextOf (.ref i1) >>= _) _ _ _
    cases hx : xs[k1]? with
    | none =>
      refine wpAny_bind (RZ.nextOf_tuple_end hh g1 m1 hx fun a2 e as2 he => ?_)
      exact hE a2 e (fun q o y1 _ _ y3 _ e => as2 _ _ y3 (ne y1 e)) he
    | some x =>
      have hy : ys[k2]? = none := hend.resolve_left (by rw [hx]; exact fun q => by cases q)
      refine wpAny_bind (RZ.nextOf_tuple_item g1 m1 hx fun a2 b1 as2 => wpAny_pure ?_)
      refine wpAny_pure ?_
      refine wpAny_bind (wpAny_bind (wpAny_holding ?_))
      show wpAny _ _ (Builtin.SmallTypes.nextOf (.ref i2) >>= _) _ _ _
      refine wpAny_bind (RZ.nextOf_tuple_end hh (g2.extBut as2.extBut D.i12.symm) (m2.extBut as2.extBut D.l2i1) hy fun a4 e as4 he => ?_)
      exact hE a4 e (fun q o y1 _ _ y3 y4 e => as4 _ _ y4 (as2.extBut _ _ y3 (ne y1 e))) he
end
theorem inn_zip {P : Program} {w : World} {z TI TO i1 i2 l1 l2 : Addr} {xs ys : List Value} {n : Nat} (D : ZipApart z TI TO i1 i2 l1 l2) (hn : n = min xs.length ys.length) : Inn P w z [z, TI, TO, i1, i2]
    (fun i h => (∃ f0 c, Zp h z TI TO f0 (.bool c) ∧ (f0 = .none ∨ ∃ T : Addr, f0 = rawInt T)) ∧ IsPair h TI (.ref i1) (.ref i2) ∧ (∃ a b, IsPair h TO a b) ∧ h.IsTupleIter i1 l1 i ∧ h.IsTupleIter i2 l2 i) (fun h => h.IsTuple l1 xs.toArray ∧ h.IsTuple l2 ys.toArray) n
    (fun i h u h' => ∃ T x y, u = .ref T ∧ h.objs.size ≤ T ∧ xs[i]? = some x ∧ ys[i]? = some y ∧ IsPair h' T x y) where
  mem := List.mem_cons_self
  there := fun i h st b hb => by
    obtain ⟨⟨f0, c, hz, _⟩, hTI, ⟨a, b', hTO⟩, ⟨o1, q1, _, d1⟩, ⟨o2, q2, _, d2⟩⟩ := st
    rcases List.mem_cons.mp hb with e | hb
    · exact ⟨_, e ▸ hz, fun v q => by cases q⟩
    rcases List.mem_cons.mp hb with e | hb
    · exact ⟨_, e ▸ hTI, fun v q => by cases q⟩
    rcases List.mem_cons.mp hb with e | hb
    · exact ⟨_, e ▸ hTO, fun v q => by cases q⟩
    rcases List.mem_cons.mp hb with e | hb
    · exact ⟨o1, e ▸ q1, fun v q => by rw [d1] at q; cases q⟩
    · rw [List.mem_singleton.mp hb]
      exact ⟨o2, q2, fun v q => by rw [d2] at q; cases q⟩
  frame := fun i h h' st k => by
    obtain ⟨⟨f0, c, hz, hf⟩, hTI, ⟨a, b', hTO⟩, h1, h2⟩ := st
    exact ⟨⟨f0, c, k z (by simp) _ hz, hf⟩, k TI (by simp) _ hTI, ⟨a, b', k TO (by simp) _ hTO⟩, h1.at fun o e => k i1 (by simp) o e, h2.at fun o e => k i2 (by simp) o e⟩
  item := fun A i s Q E hi st hs hQ => by
    obtain ⟨⟨f0, c, hz, hf⟩, hTI, ⟨a, b', hTO⟩, h1, h2⟩ := st
    have hT : s.TypeIs (.ref z) "zip" := ⟨_, hz, rfl⟩
    have l1 : i < xs.length := by omega
    have l2 : i < ys.length := by omega
    unfold Builtin.SmallTypes.nextOf
    refine wpAny_bind (wpAny_callSpecial?_slot (name := Str.ofString "__next__") hT PySem.F.slot_zip_next (wpAny_call_entry PySem.F.slot_zip_next hT PySem.F.entry_zip_next
      (zp_item (x := xs[i]) (y := ys[i]) D hz hf hTI hTO h1 h2 hs.1 hs.2 (by simp [l1]) (by simp [l2]) fun h' f0' c' T a2 b2 q1 q2 q3 q4 q5 q6 q7 q8 q9 q10 => ?_) (PySem.F.args_zip_next_1 _)))
    refine wpAny_pure (hQ (.ref T) h' ⟨⟨f0', c', q1, q2⟩, q3, ⟨a2, b2, q4⟩, q5, q6⟩ ⟨T, xs[i], ys[i], rfl, q7, List.getElem?_eq_getElem l1, List.getElem?_eq_getElem l2, q8⟩ q9 fun b o hb e => ?_)
    exact q10 b o (fun y => hb (by simp [y])) (fun y => hb (by simp [y])) (fun y => hb (by simp [y])) (fun y => hb (by simp [y])) (fun y => hb (by simp [y])) e
  done := fun A i s Q E hh hi st hs hE => by
    obtain ⟨⟨f0, c, hz, hf⟩, hTI, ⟨a, b', hTO⟩, h1, h2⟩ := st
    have hT : s.TypeIs (.ref z) "zip" := ⟨_, hz, rfl⟩
    have he : xs.toArray[i]? = none ∨ ys.toArray[i]? = none := by
      by_cases q : xs.length ≤ ys.length
      · exact .inl (by simp; omega)
      · exact .inr (by simp; omega)
    unfold Builtin.SmallTypes.nextOf
    refine wpAny_bind (wpAny_callSpecial?_slot (name := Str.ofString "__next__") hT PySem.F.slot_zip_next (wpAny_call_entry PySem.F.slot_zip_next hT PySem.F.entry_zip_next
      (zp_done hh D hz hf hTI hTO h1 h2 hs.1 hs.2 he fun h' e k hx => hE h' e (fun b o hb q => ?_) hx) (PySem.F.args_zip_next_1 _)))
    exact k b o (fun y => hb (by simp [y])) (fun y => hb (by simp [y])) (fun y => hb (by simp [y])) (fun y => hb (by simp [y])) (fun y => hb (by simp [y])) q
/-! ### making -/
theorem meets_enumT (l : Addr) (items : Array Value) :
    PySem.Meets (Builtin.«enumerate.__new__» ⟨[.type "enumerate", .ref l], []⟩) (fun _ R s => s.heap.IsTuple l items ∧
      R (.ok (.ret (.ref (s.heap.push { cls := .type "tuple_iterator", data := .fields #[.ref l, .int 0 0] }).objs.size)))
        { s with heap := (s.heap.push { cls := .type "tuple_iterator", data := .fields #[.ref l, .int 0 0] }).push { cls := .type "enumerate", data := .fields #[.none, .bool false, .ref s.heap.objs.size, rawInt 0, .none, .none] } }) :=
  .of_wp fun prog w A R s h => by
    obtain ⟨hp, g, d, tk, os⟩ := s
    obtain ⟨hl, h⟩ := h
    have hsub := sub_enumerate
    have hL : Heap.IsTuple (Shared.heap ⟨hp, g, d, tk, os⟩) l items := hl
    wp_walk using wpAny_pyIter_tuple hL
    refine wpAny_stack_any fun st => wpAny_pure ?_
    split
    · rename_i c _ _ _ _ _
      cases (c == Value.type "enumerate")
      · wp_walk using wpAny_pyIter_tuple hL
        exact ⟨_, rfl, h⟩
      · wp_walk using wpAny_pyIter_tuple hL
        exact ⟨_, rfl, h⟩
    · wp_walk using wpAny_pyIter_tuple hL
      exact ⟨_, rfl, h⟩
theorem meets_enumZ (z TI TO : Addr) (f0 : Value) :
    PySem.Meets (Builtin.«enumerate.__new__» ⟨[.type "enumerate", .ref z], []⟩) (fun _ R s => IsZip s.heap z TI TO f0 ∧
      R (.ok (.ret (.ref s.heap.objs.size))) { s with heap := s.heap.push { cls := .type "enumerate", data := .fields #[.none, .bool false, .ref z, rawInt 0, .none, .none] } }) :=
  .of_wp fun prog w A R s h => by
    obtain ⟨hp, g, d, tk, os⟩ := s
    obtain ⟨hl, h⟩ := h
    have hsub := sub_enumerate
    have it : ∀ {A : Around} {Q : Value → Shared → Prop} {E : Value → Shared → Prop}, Q (.ref z) ⟨hp, g, d, tk, os⟩ → wpAny (model prog w) A (pyIter (.ref z)) Q E ⟨hp, g, d, tk, os⟩ := fun {A Q E} q => wpAny_pyIter_zip hl q
    wp_walk using it
    refine wpAny_stack_any fun st => wpAny_pure ?_
    split
    · rename_i c _ _ _ _ _
      cases (c == Value.type "enumerate")
      · wp_walk using it
        exact ⟨_, rfl, h⟩
      · wp_walk using it
        exact ⟨_, rfl, h⟩
    · wp_walk using it
      exact ⟨_, rfl, h⟩
theorem call_enumT {P : Program} {w : World} {A : Around} {E : Value → Shared → Prop} {s : Shared} {l : Addr} {items : Array Value} {Q : Value → Shared → Prop} (hL : s.heap.IsTuple l items)
    (h : ∀ h', IsEnum h' (s.heap.objs.size + 1) s.heap.objs.size 0 .none → h'.IsTupleIter s.heap.objs.size l 0 → (∀ b o, s.heap.get? b = some o → h'.get? b = some o) → Q (.ref (s.heap.objs.size + 1)) { s with heap := h' }) : wpAny (model P w) A (call (.type "enumerate") [.ref l]) Q E s := by
  refine callType_new PySem.F.called_enumerate (by decide) (PySem.F.typeCall_enumerate_1 _) (PySem.F.newCall_enumerate_1 _) (fun obj => PySem.F.args_object_init_2 obj _) PySem.F.entry_enumerate_new (meets_enumT l items) ⟨hL, ?_⟩
  have z1 : (s.heap.push { cls := .type "tuple_iterator", data := .fields #[.ref l, .int 0 0] }).objs.size = s.heap.objs.size + 1 := Heap.size_push ..
  have g1 : ((s.heap.push { cls := .type "tuple_iterator", data := .fields #[.ref l, .int 0 0] }).push { cls := .type "enumerate", data := .fields #[.none, .bool false, .ref s.heap.objs.size, rawInt 0, .none, .none] }).get? (s.heap.push { cls := .type "tuple_iterator", data := .fields #[.ref l, .int 0 0] }).objs.size = some _ := Heap.get?_push_size _ rfl
  have g0 : ((s.heap.push { cls := .type "tuple_iterator", data := .fields #[.ref l, .int 0 0] }).push { cls := .type "enumerate", data := .fields #[.none, .bool false, .ref s.heap.objs.size, rawInt 0, .none, .none] }).get? s.heap.objs.size = some _ := Heap.get?_push_of_some _ (Heap.get?_push_size _ rfl)
  show _ ∧ _
  rw [z1] at g1 ⊢
  exact ⟨⟨_, g1, rfl⟩, h _ g1 ⟨_, g0, rfl, rfl⟩ fun b o q => Heap.get?_push_of_some _ (Heap.get?_push_of_some _ q)⟩
theorem call_enumZ {P : Program} {w : World} {A : Around} {E : Value → Shared → Prop} {s : Shared} {z TI TO : Addr} {f0 : Value} {Q : Value → Shared → Prop} (hz : IsZip s.heap z TI TO f0)
    (h : ∀ h', IsEnum h' s.heap.objs.size z 0 .none → (∀ b o, s.heap.get? b = some o → h'.get? b = some o) → Q (.ref s.heap.objs.size) { s with heap := h' }) : wpAny (model P w) A (call (.type "enumerate") [.ref z]) Q E s := by
  refine callType_new PySem.F.called_enumerate (by decide) (PySem.F.typeCall_enumerate_1 _) (PySem.F.newCall_enumerate_1 _) (fun obj => PySem.F.args_object_init_2 obj _) PySem.F.entry_enumerate_new (meets_enumZ z TI TO f0) ⟨hz, ?_⟩
  have g1 : (s.heap.push { cls := .type "enumerate", data := .fields #[.none, .bool false, .ref z, rawInt 0, .none, .none] }).get? s.heap.objs.size = some _ := Heap.get?_push_size _ rfl
  exact ⟨⟨_, g1, rfl⟩, h _ g1 fun b o q => Heap.get?_push_of_some _ q⟩
/-! ### the walks -/
def IteT (K : PySem.W.Frag) (a : Addr) : It :=
  ⟨fun i H => ∃ (xs : List V) (x : V), SqT K H a xs ∧ xs[i]? = some x, fun i H v H' => ∃ T x, v = .ref T ∧ H T = none ∧ H' = upd H T (.tup [.int (i : Nat), x]) ∧ ∀ xs, SqT K H a xs → xs[i]? = some x, fun i H => ∃ xs : List V, SqT K H a xs ∧ xs.length ≤ i⟩
theorem turn_enumT {P : Program} {w : World} {K : PySem.W.Frag} {elts : List Expr} {kk : Nat} {tpos : Pos} (a e it : Addr) :
    Turn P w K (.Tuple elts kk tpos) (IteT K a) [e, it] e (fun i h => (∃ old, IsEnum h e it ((i : Nat) : Int) old) ∧ h.IsTupleIter it a i ∧ e ≠ it) where
  mem := by simp
  obj := fun i h st b hb => by
    obtain ⟨⟨old, he⟩, ⟨o, ho, hc, hd⟩, _⟩ := st
    rcases List.mem_cons.mp hb with z | hb
    · rw [z]
      exact ⟨_, he, fun v q => by cases q⟩
    · rw [List.mem_singleton.mp hb]
      exact ⟨o, ho, fun v q => by rw [hd] at q; cases q⟩
  keep := fun i h h' ⟨⟨old, he⟩, hi, hne⟩ k => ⟨⟨old, k e (by simp) _ he⟩, hi.at fun o q => k it (by simp) o q, hne⟩
  item := by
    intro X hP hw hK hc i pins s σ H E I hf st hg
    subst hP hw hK
    obtain ⟨⟨old, he⟩, hit, hne⟩ := st
    obtain ⟨xs, x, hq, hx⟩ := hg
    obtain ⟨its, rv, p, hz⟩ := I.tuple hq
    obtain ⟨u0, hu0, ru⟩ := rv.get hx
    have hi : i < its.length := (List.getElem?_eq_some_iff.mp hu0).1
    refine enum_item (inn_tup (P := X.prog) (w := X.w) (a := a) (it := it) (its := its)) he hi hit p (fun z => hne (List.mem_singleton.mp z)) fun u h1 h' hv hs1 k1 k2 ho st' hT hsz => ?_
    have eu : u = u0 := by
      rw [hu0] at hv
      exact (Option.some.inj hv).symm
    subst eu
    refine ⟨_, rfl, wpAny_letOwnedTupleGo_enum (s := { s with heap := h', toks := s.toks + 1 }) ho fun h'' he' sb => ?_⟩
    have el : e < h1.objs.size := Nat.lt_of_lt_of_le (Heap.lt_size he) hs1
    have hT2 : h''.get? h1.objs.size = some { cls := .type "tuple", data := .seq #[.int i s.toks, u] } := (sb.2 _ (Nat.ne_of_gt el)).trans hT
    have kk2 : ∀ b o, b ∉ [e, it] → s.heap.get? b = some o → h''.get? b = some o := fun b o hb q => (sb.2 b (fun z => hb (by simp [z]))).trans (k2 b o (fun z => hb (by simp [z])) (k1 b o (fun z => hb (by simp [List.mem_singleton.mp z])) q))
    have I1 : Inv X pins σ (upd H h1.objs.size (.tup [.int (i : Nat), x])) { s with heap := h'', toks := s.toks + 1 } :=
      I.turnedNew (ch := [e, it]) kk2 hf hs1 ⟨by show 2 ≤ sizeLine; decide, [.int i s.toks, u], .cons ⟨_, rfl⟩ (.cons ru .nil), ⟨_, hT2, rfl, _, rfl⟩⟩
    refine ⟨.ref h1.objs.size, _, I1, rfl, ⟨_, x, rfl, I.hok.fresh hs1, rfl, fun ys hy => by rw [I.tuple_inj hy hq]; exact hx⟩, ⟨⟨u, ?_⟩, st'.at fun o q => (sb.2 it (Ne.symm hne)).trans q, hne⟩, fun b hb => ?_⟩
    · have e1 : ((i + 1 : Nat) : Int) = (i : Int) + 1 := by omega
      rw [e1]
      exact he'
    · have hb' : b < h1.objs.size := by
        rcases List.mem_cons.mp hb with z | hb
        · rw [z]
          exact el
        · rw [List.mem_singleton.mp hb]
          obtain ⟨_, q, _⟩ := hit
          exact Nat.lt_of_lt_of_le (Heap.lt_size q) hs1
      rw [upd_ne (Nat.ne_of_lt hb')]
      exact (hf b hb).1
  done := by
    intro X hP hw hK hc i pins s σ H E I hf st hg
    subst hP hw hK
    obtain ⟨⟨old, he⟩, hit, hne⟩ := st
    obtain ⟨xs, hq, hx⟩ := hg
    obtain ⟨its, rv, p, hz⟩ := I.tuple hq
    have hl := rv.length
    refine enum_done (I.ok.hd hc) (inn_tup (P := X.prog) (w := X.w) (a := a) (it := it) (its := its)) he (by omega) hit p fun h' k => ⟨rfl, ?_⟩
    obtain ⟨f0, f1, f2, f3, f4, f5⟩ := hf it (by simp)
    exact I.turned (t' := s.toks) (fun b o hb q => k b o (fun z => hb (List.mem_singleton.mp z)) q) f0 f1 f3 f4 f5
  self := fun A i s Q E ⟨⟨_, he⟩, _⟩ h => wpAny_pyIter_enum he h
def IteZ (K : PySem.W.Frag) (a b : Addr) : It :=
  ⟨fun i H => ∃ (xs ys : List V) (x y : V), SqT K H a xs ∧ SqT K H b ys ∧ xs[i]? = some x ∧ ys[i]? = some y,
    fun i H v H' => ∃ T U x y, v = .ref U ∧ H T = none ∧ H U = none ∧ T ≠ U ∧ H' = upd (upd H T (.tup [x, y])) U (.tup [.int (i : Nat), .ref T]) ∧ (∀ xs, SqT K H a xs → xs[i]? = some x) ∧ ∀ ys, SqT K H b ys → ys[i]? = some y,
    fun i H => ∃ xs ys : List V, SqT K H a xs ∧ SqT K H b ys ∧ (xs.length ≤ i ∨ ys.length ≤ i)⟩
theorem turn_enumZ {P : Program} {w : World} {K : PySem.W.Frag} {elts : List Expr} {kk : Nat} {tpos : Pos} {e z TI TO i1 i2 a b : Addr} (D : ZipApart z TI TO i1 i2 a b) (hne : e ∉ [z, TI, TO, i1, i2]) :
    Turn P w K (.Tuple elts kk tpos) (IteZ K a b) (e :: [z, TI, TO, i1, i2]) e (fun i h => (∃ old, IsEnum h e z ((i : Nat) : Int) old) ∧ (∃ f0 c, Zp h z TI TO f0 (.bool c) ∧ (f0 = .none ∨ ∃ T : Addr, f0 = rawInt T)) ∧ IsPair h TI (.ref i1) (.ref i2) ∧ (∃ a b, IsPair h TO a b) ∧ h.IsTupleIter i1 a i ∧ h.IsTupleIter i2 b i) where
  mem := List.mem_cons_self
  obj := fun i h ⟨⟨old, he⟩, st⟩ c hc => by
    rcases List.mem_cons.mp hc with q | hc
    · rw [q]
      exact ⟨_, he, fun v q => by cases q⟩
    · exact (inn_zip (P := P) (w := w) (xs := []) (ys := []) D rfl).there i h st c hc
  keep := fun i h h' ⟨⟨old, he⟩, st⟩ k => ⟨⟨old, k e List.mem_cons_self _ he⟩, (inn_zip (P := P) (w := w) (xs := []) (ys := []) D rfl).frame i h h' st fun c hc o q => k c (List.mem_cons_of_mem _ hc) o q⟩
  item := by
    intro X hP hw hK hc i pins s σ H E I hf st hg
    subst hP hw hK
    obtain ⟨⟨old, he⟩, st⟩ := st
    obtain ⟨xs, ys, x, y, hqx, hqy, hx, hy⟩ := hg
    obtain ⟨its, rv, p, _⟩ := I.tuple hqx
    obtain ⟨its2, rv2, p2, _⟩ := I.tuple hqy
    obtain ⟨u1, hu1, ru1⟩ := rv.get hx
    obtain ⟨u2, hu2, ru2⟩ := rv2.get hy
    have hi1 : i < its.length := (List.getElem?_eq_some_iff.mp hu1).1
    have hi2 : i < its2.length := (List.getElem?_eq_some_iff.mp hu2).1
    have N := inn_zip (P := X.prog) (w := X.w) (xs := its) (ys := its2) D rfl
    refine enum_item N he (by omega) st ⟨p, p2⟩ hne fun u h1 h' hv hs1 k1 k2 ho st' hT hsz => ?_
    obtain ⟨T, v1, v2, rfl, hTs, hv1, hv2, hTp⟩ := hv
    have e1 : v1 = u1 := by
      rw [hu1] at hv1
      exact (Option.some.inj hv1).symm
    have e2 : v2 = u2 := by
      rw [hu2] at hv2
      exact (Option.some.inj hv2).symm
    subst e1 e2
    refine ⟨_, rfl, wpAny_letOwnedTupleGo_enum (s := { s with heap := h', toks := s.toks + 1 }) ho fun h'' he' sb => ?_⟩
    have el : e < h1.objs.size := Nat.lt_of_lt_of_le (Heap.lt_size he) hs1
    have elT : e < T := Nat.lt_of_lt_of_le (Heap.lt_size he) hTs
    have fps : ∀ c ∈ [z, TI, TO, i1, i2], c < s.heap.objs.size := fun c hc => by
      obtain ⟨o, q, _⟩ := N.there i s.heap st c hc
      exact Heap.lt_size q
    have hf0 : ∀ c ∈ [z, TI, TO, i1, i2], FpOk X pins H c := fun c hc => hf c (List.mem_cons_of_mem _ hc)
    have I1 : Inv X pins σ (upd H T (.tup [x, y])) { s with heap := h1 } :=
      I.turnedNew (t' := s.toks) (ch := [z, TI, TO, i1, i2]) (fun b o hb q => k1 b o hb q) hf0 hTs ⟨by show 2 ≤ sizeLine; decide, [v1, v2], .cons ru1 (.cons ru2 .nil), ⟨_, hTp, rfl, _, rfl⟩⟩
    have lT : T < h1.objs.size := Heap.lt_size hTp
    have neT : T ≠ h1.objs.size := Nat.ne_of_lt lT
    have hT2 : h''.get? h1.objs.size = some { cls := .type "tuple", data := .seq #[.int i s.toks, .ref T] } := (sb.2 _ (Nat.ne_of_gt el)).trans hT
    have fe : FpOk X pins H e := hf e List.mem_cons_self
    have fe2 : ∀ c ∈ [e], FpOk X pins (upd H T (.tup [x, y])) c := fun c hc => by
      rw [List.mem_singleton.mp hc]
      obtain ⟨f0, f1⟩ := fe
      exact ⟨by rw [upd_ne (Nat.ne_of_lt elT)]; exact f0, f1⟩
    have I2 : Inv X pins σ (upd (upd H T (.tup [x, y])) h1.objs.size (.tup [.int (i : Nat), .ref T])) { s with heap := h'', toks := s.toks + 1 } :=
      I1.turnedNew (t' := s.toks + 1) (ch := [e]) (fun b o hb q => (sb.2 b (fun y => hb (by simp [y]))).trans (k2 b o (fun y => hb (by simp [y])) q)) fe2 (Nat.le_refl _) ⟨by show 2 ≤ sizeLine; decide, [.int i s.toks, .ref T], .cons ⟨_, rfl⟩ (.cons rfl .nil), ⟨_, hT2, rfl, _, rfl⟩⟩
    refine ⟨.ref h1.objs.size, _, I2, rfl, ⟨T, _, x, y, rfl, I.hok.fresh hTs, I.hok.fresh hs1, neT, rfl, fun l hl => by rw [I.tuple_inj hl hqx]; exact hx, fun l hl => by rw [I.tuple_inj hl hqy]; exact hy⟩, ⟨⟨.ref T, ?_⟩, ?_⟩, fun c hc => ?_⟩
    · have e1 : ((i + 1 : Nat) : Int) = (i : Int) + 1 := by omega
      rw [e1]
      exact he'
    · exact N.frame (i + 1) h' h'' st' fun c hc o q => (sb.2 c (fun y => hne (y ▸ hc))).trans q
    · have hc' : c < s.heap.objs.size := by
        rcases List.mem_cons.mp hc with q | hc
        · rw [q]
          exact Heap.lt_size he
        · exact fps c hc
      rw [upd_ne (Nat.ne_of_lt (Nat.lt_of_lt_of_le hc' hs1)), upd_ne (Nat.ne_of_lt (Nat.lt_of_lt_of_le hc' hTs))]
      exact (hf c hc).1
  done := by
    intro X hP hw hK hc i pins s σ H E I hf st hg
    subst hP hw hK
    obtain ⟨⟨old, he⟩, st⟩ := st
    obtain ⟨xs, ys, hqx, hqy, hend⟩ := hg
    obtain ⟨its, rv, p, _⟩ := I.tuple hqx
    obtain ⟨its2, rv2, p2, _⟩ := I.tuple hqy
    have l1 := rv.length
    have l2 := rv2.length
    refine enum_done (I.ok.hd hc) (inn_zip (P := X.prog) (w := X.w) (xs := its) (ys := its2) D rfl) he (by omega) st ⟨p, p2⟩ fun h' k => ⟨rfl, ?_⟩
    exact I.turnedL (t' := s.toks) (ch := [z, TI, TO, i1, i2]) (fun c o hb q => k c o hb q) fun c hc => hf c (List.mem_cons_of_mem _ hc)
  self := fun A i s Q E ⟨⟨_, he⟩, _⟩ h => wpAny_pyIter_enum he h
section
variable {X : Cx} {e e2 : Expr} {ta : TA} {p pz pos pos2 tpos : Pos} {elts : List Expr} {kk : Nat}
def iEnumT (K : PySem.W.Frag) (ta : TA) : TI := fun σ H R => ta σ H fun vs H1 => ∃ a xs, vs = [.ref a] ∧ SqT K H1 a xs ∧ R (IteT K a) H1
theorem pi_enumT (hg : Gl X "enumerate") (hm : X.mg "enumerate" = none) (ha : PA X [e] ta) (hs : starEach [e] X.env = [(false, eval e X.env)] := by rfl) : PI X (.Tuple elts kk tpos) (.Call (.Name "enumerate" p) [e] [] pos) (iEnumT X.K ta) := by
  refine ⟨fun pins s σ H R I h => Call_ (ld_blt I hg hm boot_enumerate (PyProof.Rows.callWith_type1 (thn (ha.run pos pins s σ H _ I h) fun us s1 ⟨vs, H1, I1, r1, a, xs, ex, hq, q⟩ => ?_) hs rfl))⟩
  subst ex
  cases r1 with
  | cons r rr =>
    cases rr
    cases r
    obtain ⟨its, rv, p', hz⟩ := I1.tuple hq
    refine call_enumT p' fun h' he hit hk => wpAny_pyIter_enum he ?_
    have I2 : Inv X pins σ H1 { s1 with heap := h' } := I1.kept (t' := s1.toks) hk
    refine ⟨s1.heap.objs.size + 1, [s1.heap.objs.size + 1, s1.heap.objs.size], _, _, H1, rfl, I2, turn_enumT a (s1.heap.objs.size + 1) s1.heap.objs.size, ⟨⟨.none, he⟩, hit, Nat.succ_ne_self _⟩, fun b hb => ?_, q⟩
    have hle : s1.heap.objs.size ≤ b := by
      rcases List.mem_cons.mp hb with z | hb
      · rw [z]
        exact Nat.le_succ _
      · rw [List.mem_singleton.mp hb]
        exact Nat.le_refl _
    exact I1.fpOk hle (I1.hok.fresh hle)
def iEnumZ (K : PySem.W.Frag) (ta : TA) : TI := fun σ H R => ta σ H fun vs H1 => ∃ a b xs ys, vs = [.ref a, .ref b] ∧ SqT K H1 a xs ∧ SqT K H1 b ys ∧ R (IteZ K a b) H1
/-- enumerate(zip(e, e2)) -/
theorem pi_enumZ (hg : Gl X "enumerate") (hm : X.mg "enumerate" = none) (hgz : Gl X "zip") (hmz : X.mg "zip" = none) (ha : PA X [e, e2] ta) (hs : starEach [e, e2] X.env = (false, eval e X.env) :: starEach [e2] X.env := by rfl) (hpl : (backTo pos2 (starEach [e2] X.env)).any (·.1) = false := by rfl)
    (hz : starEach [.Call (.Name "zip" pz) [e, e2] [] pos2] X.env = [(false, eval (.Call (.Name "zip" pz) [e, e2] [] pos2) X.env)] := by rfl) : PI X (.Tuple elts kk tpos) (.Call (.Name "enumerate" p) [.Call (.Name "zip" pz) [e, e2] [] pos2] [] pos) (iEnumZ X.K ta) := by
  refine ⟨fun pins s σ H R I h => Call_ (ld_blt I hg hm boot_enumerate (PyProof.Rows.callWith_type1 ?_ hz rfl))⟩
  rw [hz]
  show wpAny _ _ (spliced ((false, eval (.Call (.Name "zip" pz) [e, e2] [] pos2) X.env) :: backTo pos [])) _ _ s
  refine Calls.spliced_cons (Call_ (ld_blt I hgz hmz PyProof.Rows.boot_zip (PyProof.Rows.callWith_type1 (thn (ha.run pos2 pins s σ H _ I h) fun us s1 ⟨vs, H1, I1, r1, a, b, xs, ys, ex, hqx, hqy, q⟩ => ?_) hs hpl)))
  subst ex
  cases r1 with
  | cons r rr =>
  cases rr with
  | cons r' rr =>
  cases rr
  cases r
  cases r'
  obtain ⟨its, rv, p1, _⟩ := I1.tuple hqx
  obtain ⟨its2, rv2, p2, _⟩ := I1.tuple hqy
  obtain ⟨o1, ho1, _⟩ := id p1
  obtain ⟨o2, ho2, _⟩ := id p2
  refine RZ.call_zipT (show s1.heap.IsTuple a its.toArray from p1) (show s1.heap.IsTuple b its2.toArray from p2) fun h' hz' hTI hTO h1 h2 hsz hk => Calls.spliced_nil ?_
  refine call_enumZ (s := { s1 with heap := h' }) hz' fun h'' he hk2 => wpAny_pyIter_enum (s := { s1 with heap := h'' }) he ?_
  have I2 : Inv X pins σ H1 { s1 with heap := h'' } := I1.kept (t' := s1.toks) fun b o q => hk2 b o (hk b o q)
  have D : ZipApart (s1.heap.objs.size + 4) (s1.heap.objs.size + 2) (s1.heap.objs.size + 3) s1.heap.objs.size (s1.heap.objs.size + 1) a b := PySem.W.ktu_apart s1.heap.objs.size a b (Heap.lt_size ho1) (Heap.lt_size ho2)
  have hs5 : h'.objs.size = s1.heap.objs.size + 5 := hsz
  have ne : h'.objs.size ∉ [s1.heap.objs.size + 4, s1.heap.objs.size + 2, s1.heap.objs.size + 3, s1.heap.objs.size, s1.heap.objs.size + 1] := by
    rw [hs5]
    intro z
    have e' : s1.heap.objs.size + 5 = s1.heap.objs.size + 4 ∨ s1.heap.objs.size + 5 = s1.heap.objs.size + 2 ∨ s1.heap.objs.size + 5 = s1.heap.objs.size + 3 ∨ s1.heap.objs.size + 5 = s1.heap.objs.size ∨ s1.heap.objs.size + 5 = s1.heap.objs.size + 1 := by simpa using z
    omega
  refine ⟨h'.objs.size, _, _, _, H1, rfl, I2, turn_enumZ D ne, ⟨⟨.none, he⟩, ⟨.none, false, hk2 _ _ hz', .inl rfl⟩, hk2 _ _ hTI, ⟨_, _, hk2 _ _ hTO⟩, h1.at fun o q => hk2 _ o q, h2.at fun o q => hk2 _ o q⟩, fun c hc => ?_, q⟩
  have hle : s1.heap.objs.size ≤ c := by
    rcases List.mem_cons.mp hc with z | hc
    · rw [z, hs5]
      exact Nat.le_add_right _ _
    · have e' : c = s1.heap.objs.size + 4 ∨ c = s1.heap.objs.size + 2 ∨ c = s1.heap.objs.size + 3 ∨ c = s1.heap.objs.size ∨ c = s1.heap.objs.size + 1 := by simpa using hc
      rcases e' with z | z | z | z | z <;> rw [z] <;> first | exact Nat.le_refl _ | exact Nat.le_add_right _ _
  exact I1.fpOk hle (I1.hok.fresh hle)
/-! ### by types -/
variable {ρ : Rho} {ds es : List PyData}
theorem hide_new {Ds : List Addr} {H : Hp} {T : Addr} {o : HO} (hD : ∀ D ∈ Ds, H D ≠ none) (hT : H T = none) : hide Ds (upd H T o) = upd (hide Ds H) T o := by
  have nT : T ∉ Ds := fun z => hD T z hT
  funext b
  by_cases hb : b ∈ Ds
  · have nb : b ≠ T := fun z => nT (z ▸ hb)
    rw [hide_in hb, upd_ne nb, hide_in hb]
  · rw [hide_out hb]
    by_cases e : b = T
    · rw [e, upd_same, upd_same]
    · rw [upd_ne e, upd_ne e, hide_out hb]
theorem hide_none {Ds : List Addr} {H : Hp} {T : Addr} (hT : H T = none) : hide Ds H T = none := by
  unfold hide
  split
  · rfl
  · exact hT
theorem ti_enumT (hm : X.mg "enumerate" = none) (h : PE X e (tT ρ (tyD X.K (.tuple ds)))) (hg : Gl X "enumerate" := by rfl) (hs : starEach [e] X.env = [(false, eval e X.env)] := by rfl) :
    PI X (.Tuple elts kk tpos) (.Call (.Name "enumerate" p) [e] [] pos) (tI ρ ds.length (fun i => tyD X.K (.tuple [.int (i : Nat), ds.getD i .none]))) := pi_weak (pi_enumT hg hm (ta_cons (Ts := []) h ta_nil (by rw [hs]; rfl)) hs) fun σ H R q => ⟨q.1, fun vs H1 e1 hv => by
  match vs, hv with
  | [v], hv =>
    cases (show Dp X.K H1 v (.tuple ds) from hv.1) with
    | @tup a xs _ hs ha =>
      refine ⟨a, xs, rfl, hs.sq, q.2 _ H1 (fun H => SqT X.K H a xs ∧ DpAll X.K H xs ds) e1 ⟨fun H H' g z => ⟨g.t z.1, Gr.dpAll g _ _ z.2⟩, fun i H hi z => ?_, fun H z => ⟨xs, z.1, Nat.le_of_eq (DpAll.length z.2)⟩, fun Ds i H x H' hi hD z y => ?_⟩ ⟨hs.sq, ha⟩⟩
      · have hl : i < xs.length := by rw [DpAll.length z.2]; exact hi
        exact ⟨xs, xs[i], z.1, List.getElem?_eq_getElem hl⟩
      · obtain ⟨T, u, rfl, nT, rfl, hu⟩ := y
        refine ⟨same_new nT, ?_⟩
        rw [hide_new hD nT]
        have nT' : hide Ds H T = none := hide_none nT
        refine Dp.tupP rfl upd_same (.cons (Dp.int _) (.cons ?_ .nil))
        exact Gr.dp (Gr.new nT') _ _ (DpAll.at z.2 (hu xs ((Gr.same hide_same).t z.1)))⟩
theorem ti_enumZ (hno : ∀ i : Nat, isRs [ds.getD i .none, es.getD i .none] = false) (hm : X.mg "enumerate" = none) (hmz : X.mg "zip" = none) (h : PE X e (tT ρ (tyD X.K (.tuple ds)))) (h2 : PE X e2 (tT ρ (tyD X.K (.tuple es)))) (hg : Gl X "enumerate" := by rfl) (hgz : Gl X "zip" := by rfl)
    (hs : starEach [e, e2] X.env = (false, eval e X.env) :: starEach [e2] X.env := by rfl) (hs2 : starEach [e2] X.env = [(false, eval e2 X.env)] := by rfl) (hpl : (backTo pos2 (starEach [e2] X.env)).any (·.1) = false := by rfl) (hz : starEach [.Call (.Name "zip" pz) [e, e2] [] pos2] X.env = [(false, eval (.Call (.Name "zip" pz) [e, e2] [] pos2) X.env)] := by rfl) :
    PI X (.Tuple elts kk tpos) (.Call (.Name "enumerate" p) [.Call (.Name "zip" pz) [e, e2] [] pos2] [] pos) (tI ρ (min ds.length es.length) (fun i => tyD X.K (.tuple [.int (i : Nat), .tuple [ds.getD i .none, es.getD i .none]]))) :=
  pi_weak (pi_enumZ hg hm hgz hmz (ta_cons h (ta_cons (Ts := []) h2 ta_nil (by rw [hs2]; rfl)) hs) hs hpl hz) fun σ H R q => ⟨q.1, fun vs H1 e1 hv => by
  match vs, hv with
  | [v, v2], hv =>
    cases (show Dp X.K H1 v (.tuple ds) from hv.1) with
    | @tup a xs _ hs ha =>
    cases (show Dp X.K H1 v2 (.tuple es) from hv.2.1) with
    | @tup b ys _ hs2 hb =>
      refine ⟨a, b, xs, ys, rfl, hs.sq, hs2.sq, q.2 _ H1 (fun H => (SqT X.K H a xs ∧ DpAll X.K H xs ds) ∧ SqT X.K H b ys ∧ DpAll X.K H ys es) e1 ⟨fun H H' g z => ⟨⟨g.t z.1.1, Gr.dpAll g _ _ z.1.2⟩, g.t z.2.1, Gr.dpAll g _ _ z.2.2⟩, fun i H hi z => ?_, fun H z => ?_, fun Ds i H x H' hi hD z y => ?_⟩ ⟨⟨hs.sq, ha⟩, hs2.sq, hb⟩⟩
      · have l1 : i < xs.length := by rw [DpAll.length z.1.2]; omega
        have l2 : i < ys.length := by rw [DpAll.length z.2.2]; omega
        exact ⟨xs, ys, xs[i], ys[i], z.1.1, z.2.1, List.getElem?_eq_getElem l1, List.getElem?_eq_getElem l2⟩
      · have l1 := DpAll.length z.1.2
        have l2 := DpAll.length z.2.2
        exact ⟨xs, ys, z.1.1, z.2.1, by omega⟩
      · obtain ⟨T, U, u, v, rfl, nT, nU, nTU, rfl, hu, hv'⟩ := y
        have nU2 : upd H T (.tup [u, v]) U = none := by
          rw [upd_ne (Ne.symm nTU)]
          exact nU
        refine ⟨(same_new nT).trans (same_new nU2), ?_⟩
        have hD2 : ∀ D ∈ Ds, upd H T (.tup [u, v]) D ≠ none := fun D hd => by
          by_cases e : D = T
          · rw [e, upd_same]
            exact fun z => by cases z
          · rw [upd_ne e]
            exact hD D hd
        rw [hide_new hD2 nU2, hide_new hD nT]
        have nT' : hide Ds H T = none := hide_none nT
        have nU' : upd (hide Ds H) T (.tup [u, v]) U = none := by
          rw [upd_ne (Ne.symm nTU)]
          exact hide_none nU
        refine Dp.tupP rfl upd_same (.cons (Dp.int _) (.cons (Gr.dp (Gr.new nU') _ _ (Dp.tupP (hno i) upd_same (.cons ?_ (.cons ?_ .nil)))) .nil))
        · exact Gr.dp (Gr.new nT') _ _ (DpAll.at z.1.2 (hu xs ((Gr.same hide_same).t z.1.1)))
        · exact Gr.dp (Gr.new nT') _ _ (DpAll.at z.2.2 (hv' ys ((Gr.same hide_same).t z.2.1)))⟩
theorem ti_zipT (hno : ∀ i : Nat, isRs [ds.getD i .none, es.getD i .none] = false) (hmz : X.mg "zip" = none) (h : PE X e (tT ρ (tyD X.K (.tuple ds)))) (h2 : PE X e2 (tT ρ (tyD X.K (.tuple es)))) (hgz : Gl X "zip" := by rfl)
    (hs : starEach [e, e2] X.env = (false, eval e X.env) :: starEach [e2] X.env := by rfl) (hs2 : starEach [e2] X.env = [(false, eval e2 X.env)] := by rfl) (hpl : (backTo pos (starEach [e2] X.env)).any (·.1) = false := by rfl) :
    PI X (.Tuple elts kk tpos) (.Call (.Name "zip" p) [e, e2] [] pos) (tI ρ (min ds.length es.length) (fun i => tyD X.K (.tuple [ds.getD i .none, es.getD i .none]))) :=
  pi_weak (RZ.pi_zipA hgz hmz (ta_cons h (ta_cons (Ts := []) h2 ta_nil (by rw [hs2]; rfl)) hs) hs hpl) fun σ H R q => ⟨q.1, fun vs H1 e1 hv => by
  match vs, hv with
  | [v, v2], hv =>
    cases (show Dp X.K H1 v (.tuple ds) from hv.1) with
    | @tup a xs _ hs ha =>
    cases (show Dp X.K H1 v2 (.tuple es) from hv.2.1) with
    | @tup b ys _ hs2 hb =>
      refine ⟨a, b, xs, ys, rfl, .inr ⟨hs.sq, hs2.sq, q.2 _ H1 (fun H => (SqT X.K H a xs ∧ DpAll X.K H xs ds) ∧ SqT X.K H b ys ∧ DpAll X.K H ys es) e1 ⟨fun H H' g z => ⟨⟨g.t z.1.1, Gr.dpAll g _ _ z.1.2⟩, g.t z.2.1, Gr.dpAll g _ _ z.2.2⟩, fun i H hi z => ?_, fun H z => ?_, fun Ds i H x H' hi hD z y => ?_⟩ ⟨⟨hs.sq, ha⟩, hs2.sq, hb⟩⟩⟩
      · have l1 : i < xs.length := by rw [DpAll.length z.1.2]; omega
        have l2 : i < ys.length := by rw [DpAll.length z.2.2]; omega
        exact ⟨xs, ys, xs[i], ys[i], z.1.1, z.2.1, List.getElem?_eq_getElem l1, List.getElem?_eq_getElem l2⟩
      · have l1 := DpAll.length z.1.2
        have l2 := DpAll.length z.2.2
        exact ⟨xs, ys, z.1.1, z.2.1, by omega⟩
      · obtain ⟨T, u, v, rfl, nT, rfl, hu, hv'⟩ := y
        refine ⟨same_new nT, ?_⟩
        rw [hide_new hD nT]
        have nT' : hide Ds H T = none := hide_none nT
        refine Dp.tupP (hno i) upd_same (.cons ?_ (.cons ?_ .nil))
        · exact Gr.dp (Gr.new nT') _ _ (DpAll.at z.1.2 (hu xs ((Gr.same hide_same).t z.1.1)))
        · exact Gr.dp (Gr.new nT') _ _ (DpAll.at z.2.2 (hv' ys ((Gr.same hide_same).t z.2.1)))⟩
end
end K14
/-! KD: dict comprehensions whose keys are tuples of texts; such dicts by types. -/
namespace K14
open PySem PySem.Spec PyProof.Rows L2

/-- d[k] = v amid a comprehension, the key a tuple -/
theorem set_tup {X : Cx} {pins : List (Addr × Obj)} {σ : L2.St} {H : Hp} {s : Shared} {E : Value → Shared → Prop} {D b : Addr} {kvs : List (List Key × V)} {k : List Key} {v : V} {r : Value} {Q : Unit → Shared → Prop} (hu : X.A.units < cLine) (I : Inv X pins σ H s) (hD : H D = some (.dT kvs)) (hb : H b = some (.tup (k.map kV))) (hz : kvs.length < sizeLine)
    (rv : RelV v r) (h : ∀ s', Inv X pins σ (upd H D (.dT (putK kvs k v))) s' → Q () s') : wpAny (model X.prog X.w) X.A (dictSet D (.ref b) r) Q E s := by
  obtain ⟨z, hd, xs, rel, dd⟩ := dt_of I.hok hD
  have h1 : xs.length ≤ sizeLine := by
    rw [← Paired.length rel]
    exact z
  have h2 : (putK kvs k v).length ≤ sizeLine := by
    have := length_putK kvs k v
    omega
  refine wpAny_dictSet_heap (hsz := h1) (show (tupleKind (mixKind X.prog X.w)).room X.A from hu) (key_of I.hok hb) dd fun h' dd' hs => h _ ?_
  obtain ⟨q, es, ep, hq, a1, a2, a3, _, a4⟩ := dd'
  refine d_write I (by rw [hD]; exact True.intro) hs ⟨q, hq⟩ ⟨h2, hd, _, (rel.put k hb rv).keeps fun c ys ec => ?_, q, es, ep, hq, a1, a2, a3, a4⟩
  rw [upd_ne (ne_of ec hD (fun z => nomatch z))]
  exact ec
section
variable {X : Cx}
/-- {k: v for target in iter}, keys tuples: D the new dict -/
def tDt (wi : TI) (g : TG) (tk tv : TE) (vs : List Nat) : TE := fun σ H Q => wi σ H fun J H1 => ∀ D, H1 D = none → ∃ W : Nat → Nat → Hp → Prop, (∃ m, W 0 m (upd H1 D (.dT []))) ∧ ∀ i m H, W i m H →
  (J.stop i H ∧ Q (.ref D) H) ∨ (J.go i H ∧ ∃ Nx : Hp → Prop, (∀ H', Nx H' → ∃ m', m' < m ∧ W (i + 1) m' H') ∧ ∀ x H', J.yld i H x H' → g x (L2.wipe σ vs) H' fun σ2 H2 => L2.wipe σ2 vs = L2.wipe σ vs ∧
    tk σ2 H2 fun y H4 => tv σ2 H4 fun z H5 => ∃ kvs k b, y = .ref b ∧ H5 b = some (.tup (k.map kV)) ∧ H5 D = some (.dT kvs) ∧ kvs.length < sizeLine ∧ Nx (upd H5 D (.dT (putK kvs k z))))
theorem pe_dt {kx vx tg iter : Expr} {scope : Scope} {own : List (Str × Nat)} {pos : Pos} {wi : TI} {g : TG} {tk tv : TE} (hu : X.A.units < cLine) (hc : X.calm = true) (hN : X.N.Nodup) (hi : PI X tg iter wi) (ok : BlkOk X.N X.env.scope scope own)
    (hg : ∀ (s : Shared) (H : Hp) (C : Addr) (cl : List (Str × Addr)) (fp : List Addr), PG (X.blk s H scope (compEnvC scope cl C X.env) fp) tg g)
    (hk : ∀ (s : Shared) (H : Hp) (C : Addr) (cl : List (Str × Addr)) (fp : List Addr), PE (X.blk s H scope (compEnvC scope cl C X.env) fp) kx tk)
    (he : ∀ (s : Shared) (H : Hp) (C : Addr) (cl : List (Str × Addr)) (fp : List Addr), PE (X.blk s H scope (compEnvC scope cl C X.env) fp) vx tv) (hs : ∀ x, foldedSetIterable iter X.env x = pure x := by intro _; rfl) :
    PE X (.DictComp kx vx [⟨tg, iter, [], 0⟩] scope pos) (tDt wi g tk tv (own.map (·.2))) := by
  refine ⟨fun pins s σ H Q I h => ?_⟩
  rw [arm_eval_DictComp]
  have closed : ∀ y ∈ scope.names, y.2 = .free → ∃ c, X.env.cells.lookup y.1 = some c := fun y hy e => I.ok.has _ (ok.free y hy e)
  refine wpAny_comprehension_free (use := none) rfl hs (closure_ok closed) ok.kind (fun y hy e => by rw [ok.uniq y hy, e]) (thn (hi.run pins s σ H _ I h) fun xv s1 hx => thn hx fun itv s2 h2 => ?_)
  obtain ⟨it, fp, tn, J, H2, rfl, I2, T, st2, f2, q⟩ := h2
  refine wpAny_newObj_type (newEnv_comp ?_)
  generalize hD : s2.heap.objs.size = D
  have freeD : H2 D = none := I2.hok.fresh (Nat.le_of_eq hD)
  obtain ⟨W, ⟨m0, w0⟩, turn⟩ := q D freeD
  generalize hs3 : ({ s2 with heap := s2.heap.push { cls := .type "dict", data := .dict #[] } } : Shared) = s3
  have h3 : s3.heap = s2.heap.push { cls := .type "dict", data := .dict #[] } := by rw [← hs3]
  have I3 : Inv X pins σ (upd H2 D (.dT [])) s3 := by
    subst hs3
    subst hD
    exact I2.laid (t' := s2.toks) (fun b o e => Heap.get?_push_of_some _ e) (Nat.le_refl _) (dt_empty s2.heap I2.big)
  have below : ∀ b ∈ fp, b < D := fun b hb => by
    obtain ⟨o, e, _⟩ := T.obj _ _ st2 b hb
    exact hD ▸ Heap.lt_size e
  have f3 : ∀ b ∈ fp, FpOk X pins (upd H2 D (.dT [])) b ∧ b < s3.heap.objs.size := fun b hb => by
    refine ⟨⟨?_, (f2 b hb).2⟩, ?_⟩
    · rw [upd_ne (Nat.ne_of_lt (below b hb))]
      exact (f2 b hb).1
    · rw [h3, Heap.size_push, hD]
      exact Nat.lt_succ_of_lt (below b hb)
  have st3 : tn 0 s3.heap := T.keep _ _ _ st2 fun b _ o e => by
    rw [h3]
    exact Heap.get?_push_of_some _ e
  have I4 := block_start I3 ok hN f3
  have nfp : ∀ b ∈ fp, (upd H2 D (.dT [])) b = none := fun b hb => (f3 b hb).1.1
  show codeAny _ _ (.compStart (.DictComp kx vx [⟨tg, iter, [], 0⟩] scope pos) 0 (.ref it) (.ref D) (compEnvC scope (cellsFrom (s3.heap.objs.size + 1) scope.names (cloFrom X.env.cells scope.names [])) s3.heap.objs.size X.env))
    (compPost (model X.prog X.w) X.A X.xe none (EP X pins σ Q) (.ref D) s3.heap.objs.size) { s3 with heap := pushCells (s3.heap.push { cls := .type "dict", data := .dict #[] }) scope.names }
  obtain ⟨C, hC⟩ : ∃ C, s3.heap.objs.size = C := ⟨_, rfl⟩
  rw [hC] at I4 ⊢
  obtain ⟨cl, hcl⟩ : ∃ cl, cellsFrom (C + 1) scope.names (cloFrom X.env.cells scope.names []) = cl := ⟨_, rfl⟩
  rw [hcl] at I4 ⊢
  have pg := hg s3 (upd H2 D (.dT [])) C cl fp
  have pk := hk s3 (upd H2 D (.dT [])) C cl fp
  have pe := he s3 (upd H2 D (.dT [])) C cl fp
  obtain ⟨H3, hH3⟩ : ∃ H3, upd H2 D (.dT []) = H3 := ⟨_, rfl⟩
  rw [hH3] at I3 I4 pg pk pe w0 nfp f3
  obtain ⟨ce, hce⟩ : ∃ ce, compEnvC scope cl C X.env = ce := ⟨_, rfl⟩
  have cL : ce.locals = C := by rw [← hce]; rfl
  rw [hce] at I4 pg pk pe ⊢
  obtain ⟨s4, hs4⟩ : ∃ s4 : Shared, { s3 with heap := pushCells (s3.heap.push { cls := .type "dict", data := .dict #[] }) scope.names } = s4 := ⟨_, rfl⟩
  rw [hs4] at I4 ⊢
  have st4 : tn 0 s4.heap := T.keep _ _ _ st3 fun b _ o e => by
    rw [← hs4]
    exact pushCells_keeps _ _ _ _ (Heap.get?_push_of_some _ e)
  let Y : Cx := X.blk s3 H3 scope ce fp
  have stat : ∀ {σ' : L2.St} {H' : Hp} {s' : Shared}, Inv Y [] σ' H' s' → (∀ b ∈ fp, H' b = none) → ∀ b ∈ fp, FpOk Y [] H' b := fun {σ' H' s'} I' hn b hb =>
    ⟨hn b hb, (I'.ok.exf b hb).1, I'.ok.exfs b hb, .inl hb, fun x c e => (I'.ok.exf b hb).2 x c e, fun p hp => by cases (show p ∈ ([] : List (Addr × Obj)) ++ [] from hp)⟩
  have fin0 : ∀ {s' : Shared} {H' : Hp}, Inv X pins σ H' s' → Q (.ref D) H' → (∃ m, s'.heap.Ns C m) → FpOk X pins H' C → compPost (model X.prog X.w) X.A X.xe none (EP X pins σ Q) (.ref D) C (.ok .next) s' := fun {s' H'} I' q' ⟨m, hn⟩ f => by
    obtain ⟨f0, f1, f2, f3, f4, f5⟩ := f
    exact ⟨m, hn, fun h'' sb => ⟨.ref D, H', I'.turned (t' := s'.toks) (fun b o hb e => (sb.2 b hb).trans e) f0 f1 f3 f4 f5, rfl, q'⟩⟩
  have loop : codeAny (model X.prog X.w) X.A (.compLoop (.DictComp kx vx [⟨tg, iter, [], 0⟩] scope pos) 0 (.ref it) (.ref D) ce) (compPost (model X.prog X.w) X.A X.xe none (EP X pins σ Q) (.ref D) C) s4 := by
    refine compLoop_anyD (fun n s' => ∃ i H', Inv Y [] (L2.wipe σ (own.map (·.2))) H' s' ∧ tn i s'.heap ∧ (∀ b ∈ fp, H' b = none) ∧ W i n H') ?_ m0 ⟨0, H3, I4, st4, nfp, w0⟩
    rintro n s5 ⟨i, H5, I5, st5, n5, w5⟩
    rcases turn i n H5 w5 with ⟨stop, qq⟩ | ⟨go, Nx, hNx, step⟩
    · refine thnF (T.done Y rfl rfl rfl hc i [] s5 _ H5 (fun _ _ => False) I5 (stat I5 n5) st5 stop) fun r s6 ⟨hr, I6⟩ => ?_
      subst hr
      have I7 : Inv X pins σ H5 s6 := I3.call' (ch := fp) I6.os I6.base I6.hok I6.bare fun b hb => ⟨(f3 b hb).1.2.2.2.1, (f3 b hb).1.2.1, (f3 b hb).1.2.2.2.2.1, (f3 b hb).1.2.2.2.2.2⟩
      have nC : H5 C = none := by
        have z : H5 ce.locals = none := I6.free
        rw [cL] at z
        exact z
      obtain ⟨m, hn, _⟩ := I6.loc
      have hn : s6.heap.Ns ce.locals m := hn
      rw [cL] at hn
      exact fin0 I7 qq ⟨m, hn⟩ (I3.fpOk (Nat.le_of_eq hC) nC)
    · refine thnF (T.item Y rfl rfl rfl hc i [] s5 _ H5 (fun _ _ => False) I5 (stat I5 n5) st5 go) fun r s6 ⟨u, hr, h6⟩ => ?_
      subst hr
      refine thnF h6 fun _ s7 ⟨x, H7, I7, r7, y7, st7, n7⟩ => ?_
      have I7' := I7.pinned (stat I7 n7) (T.obj _ _ st7)
      refine thnF (pg.run _ s7 _ H7 x u _ I7' r7 (step x H7 y7)) fun _ s8 ⟨σ8, H8, I8, hw8, q8⟩ => ?_
      refine wpAny_tests_nil ?_
      rw [if_pos rfl]
      refine thnF (pk.run _ s8 σ8 H8 _ I8 q8) fun z s10 ⟨yk, H10, I10, r10, q10⟩ => ?_
      refine thnF (pe.run _ s10 σ8 H10 _ I10 q10) fun z2 s11 ⟨yv, H11, I11, r11, kvs, k, b, ek, hb11, hD11, hz11, nx⟩ => ?_
      subst ek
      cases (show z = Value.ref b from r10)
      refine set_tup (X := Y) hu I11 hD11 hb11 hz11 r11 fun s' I' => ?_
      obtain ⟨m', hm, w'⟩ := hNx _ nx
      have pin' : ∀ b ∈ fp, ∀ o, s7.heap.get? b = some o → s'.heap.get? b = some o ∧ (upd H11 D (.dT (putK kvs k yv))) b = none := fun b hb o e =>
        let z := I'.pin (b, o) (List.mem_append_right _ (List.mem_append_right _ (mem_pinsAt hb e)))
        ⟨z.1, z.2.1⟩
      have hl : (L2.wipe σ (own.map (·.2))).length = σ8.length := by rw [← hw8, wipe_length]
      refine ⟨m', hm, i + 1, _, (I'.unpinned (pins := [])).weak hl (fun j v e => ?_), T.keep _ _ _ st7 fun b hb o e => (pin' b hb o e).1, fun b hb => ?_, w'⟩
      · rw [← hw8] at e
        exact (wipe_some e).1
      · obtain ⟨o, e, _⟩ := T.obj _ _ st7 b hb
        exact (pin' b hb o e).2
  exact codeAny_compStart_dict loop (T.self X.A 0 _ _ _ st4 loop)
end

/-! ### rules as keys -/
abbrev Rule := Str × Str
def pairD (p : Rule) : PyData := .tuple [.str p.1, .str p.2]
def rulesD (rs : List Rule) : PyData := .tuple (rs.map pairD)
def keyOf (p : Rule) : List Key := [.inr p.1, .inr p.2]
theorem keyOf_inj {p q : Rule} (h : keyOf p = keyOf q) : p = q := by
  injection h with h1 h2
  injection h2 with h2 _
  injection h1 with h1
  injection h2 with h2
  exact Prod.ext h1 h2
/-- what {rule: rank ..} holds -/
def rkL : Nat → List Rule → List (List Key × V)
  | _, [] => []
  | k, q :: rs => (keyOf q, .int (k : Nat)) :: rkL (k + 1) rs
def rankOf : List Rule → Rule → Option Nat
  | [], _ => none
  | q :: rs, p => if q = p then some 0 else (rankOf rs p).map (· + 1)
theorem rkL_len : ∀ (rs : List Rule) (k : Nat), (rkL k rs).length = rs.length
  | [], _ => rfl
  | _ :: rs, k => congrArg (· + 1) (rkL_len rs (k + 1))
theorem rkL_app : ∀ (rs : List Rule) (k : Nat) (p : Rule), rkL k (rs ++ [p]) = rkL k rs ++ [(keyOf p, .int ((k + rs.length : Nat)))]
  | [], k, p => rfl
  | q :: rs, k, p => by
    show _ :: rkL (k + 1) (rs ++ [p]) = _
    rw [rkL_app rs (k + 1) p]
    have e : k + 1 + rs.length = k + (q :: rs).length := by
      rw [List.length_cons]
      omega
    rw [e]
    rfl
theorem rkL_val : ∀ (rs : List Rule) (k : Nat) (p : Rule), valV (rkL k rs) (keyOf p) = (rankOf rs p).map fun i => V.int ((k + i : Nat))
  | [], k, p => rfl
  | q :: rs, k, p => by
    unfold rkL rankOf
    by_cases h : q = p
    · rw [if_pos h, valV_pos (congrArg keyOf h)]
      rfl
    · rw [if_neg h, valV_neg (fun z => h (keyOf_inj z)), rkL_val rs (k + 1) p, Option.map_map]
      congr 1
      funext i
      show V.int _ = V.int _
      have e : (k + 1 + i : Nat) = k + (i + 1) := by omega
      rw [e]
theorem rankOf_none : ∀ {rs : List Rule} {p : Rule}, rankOf rs p = none ↔ p ∉ rs
  | [], p => by simp [rankOf]
  | q :: rs, p => by
    unfold rankOf
    by_cases h : q = p
    · simp [h]
    · rw [if_neg h]
      have ih := rankOf_none (rs := rs) (p := p)
      simp only [Option.map_eq_none_iff, ih, List.mem_cons, not_or]
      exact ⟨fun z => ⟨fun y => h y.symm, z⟩, fun z => z.2⟩
theorem rkL_put {rs : List Rule} {k : Nat} {p : Rule} {v : V} (h : p ∉ rs) : putK (rkL k rs) (keyOf p) v = rkL k rs ++ [(keyOf p, v)] := by
  unfold putK
  rw [valV_any, rkL_val, rankOf_none.mpr h]
  rfl
/-- {rule: rank ..} -/
def tyRk (rs : List Rule) : Ty := ⟨fun H v => ∃ a, v = .ref a ∧ H a = some (.dT (rkL 0 rs)), fun e ⟨a, h1, h2⟩ => ⟨a, h1, e.keep a _ h2 True.intro⟩⟩
theorem pair_key {K : PySem.W.Frag} {H : Hp} {v : V} {p : Rule} (h : Dp K H v (pairD p)) : ∃ b, v = .ref b ∧ H b = some (.tup ((keyOf p).map kV)) := by
  cases (show Dp K H v (.tuple [.str p.1, .str p.2]) from h) with
  | tup hs ha =>
    cases ha with
    | cons h1 h2 =>
    cases h2 with
    | cons h2 h3 =>
    cases h3
    cases h1
    cases h2
    exact ⟨_, rfl, hs.un⟩
section
variable {X : Cx} {a b : Expr} {pos : Pos} {ρ : Rho} {rs : List Rule} {p : Rule}
theorem pe_any {t : TE} {e : Expr} {T : Ty} (h : PE X e t) (w : ∀ σ H Q, EnvT H σ ρ → (∀ v H', Gr H H' → T.p H' v → Q v H') → t σ H Q) : PE X e (tT ρ T) := pe_weak h fun σ H Q q => w σ H Q q.1 q.2
/-- pair in rank_by -/
theorem te_inRk (hu : X.A.units + 1 < cLine) (ha : PE X a (tT ρ (tyD X.K (pairD p)))) (hb : PE X b (tT ρ (tyRk rs))) (hm : behindInMarks .In b = false := by rfl) : PE X (.Compare a [.In] [b] pos) (tT ρ (tyD X.K (.bool (rankOf rs p).isSome))) :=
  pe_any (pe_cmp (pc_din hu ha hb) hm) fun σ H Q hE k => ⟨hE, fun y H1 e1 hy => ⟨hE.mono e1, fun x H2 e2 ⟨d, ex, hd⟩ => by
    obtain ⟨c, ey, hc⟩ := pair_key (Gr.dp e2 _ _ hy)
    subst ey
    refine ⟨d, _, ex, DGet.t hd hc, ?_⟩
    rw [rkL_val, Option.isSome_map]
    exact k _ H2 (e1.trans e2) (Dp.bl _)⟩⟩
theorem tt_inRk (hu : X.A.units + 1 < cLine) (ha : PE X a (tT ρ (tyD X.K (pairD p)))) (hb : PE X b (tT ρ (tyRk rs))) (hm : behindInMarks .In b = false := by rfl) : PT X (.Compare a [.In] [b] pos) (tTB ρ (rankOf rs p).isSome) :=
  pt_weak (pt_cmp (pc_din hu ha hb) hm) fun σ H Q q => ⟨q.1, fun y H1 e1 hy => ⟨q.1.mono e1, fun x H2 e2 ⟨d, ex, hd⟩ => by
    obtain ⟨c, ey, hc⟩ := pair_key (Gr.dp e2 _ _ hy)
    subst ey
    refine ⟨d, _, ex, DGet.t hd hc, _, rfl, ?_⟩
    rw [rkL_val, Option.isSome_map]
    exact q.2 H2 (e1.trans e2)⟩⟩
/-- rank_by[pair] -/
theorem te_getRk {i : Nat} (hu : X.A.units + 1 < cLine) (hb : PE X b (tT ρ (tyRk rs))) (ha : PE X a (tT ρ (tyD X.K (pairD p)))) (hi : rankOf rs p = some i) (hs : NoSl a) : PE X (.Subscript b a pos) (tT ρ (tyD X.K (.int (i : Nat)))) :=
  pe_any (pe_dget hu hb ha hs) fun σ H Q hE k => ⟨hE, fun x H1 e1 ⟨d, ex, hd⟩ => ⟨hE.mono e1, fun y H2 e2 hy => by
    obtain ⟨c, ey, hc⟩ := pair_key hy
    subst ey
    have h2 : H2 d = some (.dT (rkL 0 rs)) := e2.keep d _ hd True.intro
    refine ⟨d, .int (i : Nat), ex, ?_, k _ H2 (e1.trans e2) (Dp.int _)⟩
    have g := DGet.t (k := keyOf p) h2 hc
    rw [rkL_val, hi] at g
    have e0 : (0 + i : Nat) = i := Nat.zero_add i
    simp only [Option.map_some, e0] at g
    exact g⟩⟩
/-- {rule: rank for rank, rule in enumerate(..)} -/
def drG (ρ : Rho) (vs : List Nat) (n : Nat) (item : Nat → Ty) (nxt : Nat → Rho) : TG := lcG ρ vs n item nxt
def drE (n : Nat) (el : Nat → Ty) (nxt : Nat → Rho) : TE := fun σ H Q => ∃ i, i < n ∧ fT (nxt i) (el i) σ H Q
theorem te_rank {kx vx tg iter : Expr} {scope : Scope} {own : List (Str × Nat)} {item : Nat → Ty} {nxt : Nat → Rho} (hu : X.A.units < cLine) (hc : X.calm = true) (hN : X.N.Nodup) (hi : PI X tg iter (tI ρ rs.length item)) (hn : rs.length ≤ 1000000) (nd : rs.Nodup) (ok : BlkOk X.N X.env.scope scope own)
    (hg : ∀ i, i < rs.length → ∀ (s : Shared) (H : Hp) (C : Addr) (cl : List (Str × Addr)) (fp : List Addr), PG (X.blk s H scope (compEnvC scope cl C X.env) fp) tg (gT (own.map (·.2)) (wipeR ρ (own.map (·.2))) (item i) (nxt i)))
    (hk : ∀ i (h : i < rs.length), ∀ (s : Shared) (H : Hp) (C : Addr) (cl : List (Str × Addr)) (fp : List Addr), PE (X.blk s H scope (compEnvC scope cl C X.env) fp) kx (tT (nxt i) (tyD X.K (pairD rs[i]))))
    (hv : ∀ i, i < rs.length → ∀ (s : Shared) (H : Hp) (C : Addr) (cl : List (Str × Addr)) (fp : List Addr), PE (X.blk s H scope (compEnvC scope cl C X.env) fp) vx (tT (nxt i) (tyD X.K (.int (i : Nat))))) (hs : ∀ x, foldedSetIterable iter X.env x = pure x := by intro _; rfl) :
    PE X (.DictComp kx vx [⟨tg, iter, [], 0⟩] scope pos) (tT ρ (tyRk rs)) := by
  have el : ∀ i, i < rs.length → tyD X.K (pairD (rs.getD i ("", ""))) = tyD X.K (pairD (rs.getD i ("", ""))) := fun _ _ => rfl
  have ge : ∀ i (h : i < rs.length), rs.getD i ("", "") = rs[i] := fun i h => by
    rw [List.getD_eq_getElem?_getD, List.getElem?_eq_getElem h]
    rfl
  refine pe_weak (pe_dt (g := lcG ρ (own.map (·.2)) rs.length item nxt) (tk := drE rs.length (fun i => tyD X.K (pairD (rs.getD i ("", "")))) nxt) (tv := drE rs.length (fun i => tyD X.K (.int (i : Nat))) nxt) hu hc hN hi ok
    (fun s H C cl fp => ⟨fun pins s' σ H' v u Q I r ⟨i, h1, h2⟩ => (pg_frame (hg i h1 s _ C cl fp)).run pins s' σ H' v u Q I r h2⟩)
    (fun s H C cl fp => ⟨fun pins s' σ H' Q I ⟨i, h1, h2⟩ => (pe_frame (show PE (X.blk s _ scope (compEnvC scope cl C X.env) fp) kx (tT (nxt i) (tyD X.K (pairD (rs.getD i ("", ""))))) from by rw [ge i h1]; exact hk i h1 s _ C cl fp)).run pins s' σ H' Q I h2⟩)
    (fun s H C cl fp => ⟨fun pins s' σ H' Q I ⟨i, h1, h2⟩ => (pe_frame (hv i h1 s _ C cl fp)).run pins s' σ H' Q I h2⟩) hs) fun σ H Q q => ?_
  refine ⟨q.1, fun J H1 G e1 w g D nD => ?_⟩
  have mD : D ∈ [D] := List.mem_singleton.mpr rfl
  have hd0 : ∀ o, hide [D] (upd H1 D o) = H1 := fun o => by
    rw [hide_upd mD]
    funext b
    by_cases hb : b ∈ [D]
    · rw [hide_in hb, List.mem_singleton.mp hb, nD]
    · rw [hide_out hb]
  have vs := own.map (·.2)
  refine ⟨fun i m H' => m = rs.length - i ∧ i ≤ rs.length ∧ G (hide [D] H') ∧ Gr H1 (hide [D] H') ∧ H' D = some (.dT (rkL 0 (rs.take i))), ⟨rs.length, by simp, Nat.zero_le _, by rw [hd0]; exact g, by rw [hd0]; exact Gr.refl _, by rw [List.take_zero]; exact upd_same⟩, ?_⟩
  rintro i m H' ⟨rfl, hi', gH, eH, hD⟩
  have gH' : G H' := w.st _ _ (.same hide_same) gH
  have ownH : ∀ H2, H2 D = some (.dT (rkL 0 (rs.take i))) → Own [D] H2 := fun H2 h b hb => .inr ⟨rkL 0 (rs.take i), by rw [List.mem_singleton.mp hb]; exact h⟩
  by_cases hlt : i < rs.length
  · refine .inr ⟨w.goes i H' hlt gH', fun H2 => G (hide [D] H2) ∧ Gr H1 (hide [D] H2) ∧ H2 D = some (.dT (rkL 0 (rs.take (i + 1)))), fun H2 z => ⟨rs.length - (i + 1), by omega, rfl, hlt, z⟩, fun x H2 y => ?_⟩
    obtain ⟨e20, hx⟩ := w.yields [D] i H' x H2 hlt (fun b hb => by rw [List.mem_singleton.mp hb, hD]; exact fun z => by cases z) gH y
    have e2 : Gr (hide [D] H') (hide [D] H2) := .same (hide_mono e20)
    have hE : EnvT (hide [D] H2) (L2.wipe σ (own.map (·.2))) (wipeR ρ (own.map (·.2))) := (q.1.mono ((e1.trans eH).trans e2)).wipe _
    refine ⟨i, hlt, [D], ownH H2 (e20 D _ hD), hE, hx, fun σ3 H3 b3 hE3 hw => ⟨hw.trans (wipe_wipe σ _ _ fun _ z => z), i, hlt, [D], ownH H3 ((b3.own D mD).trans (e20 D _ hD)), hE3, fun v4 H4 b4 h4 => ?_⟩⟩
    have h4D : H4 D = some (.dT (rkL 0 (rs.take i))) := (b4.own D mD).trans ((b3.own D mD).trans (e20 D _ hD))
    refine ⟨i, hlt, [D], ownH H4 h4D, hE3.mono b4.gr, fun v5 H5 b5 h5 => ?_⟩
    have h5D : H5 D = some (.dT (rkL 0 (rs.take i))) := (b5.own D mD).trans h4D
    have e25 : Gr (hide [D] H') (hide [D] H5) := ((e2.trans b3.gr).trans b4.gr).trans b5.gr
    obtain ⟨b, ey, hb⟩ := pair_key (Gr.dp b5.gr _ _ h4)
    have hb5 : H5 b = some (.tup ((keyOf (rs.getD i ("", ""))).map kV)) := hide_same b _ hb
    cases (show Dp X.K _ v5 (.int (i : Nat)) from h5)
    have fresh : rs.getD i ("", "") ∉ rs.take i := by
      rw [ge i hlt]
      intro z
      obtain ⟨j, hj, ej⟩ := List.mem_iff_getElem.mp z
      rw [List.length_take] at hj
      rw [List.getElem_take] at ej
      have q3 : j = i := (List.getElem_inj nd).mp ej
      omega
    refine ⟨_, keyOf (rs.getD i ("", "")), b, ey, hb5, h5D, by rw [rkL_len, List.length_take, sizeLine_eq]; omega, ?_⟩
    rw [rkL_put fresh]
    show G (hide [D] (upd H5 D _)) ∧ Gr H1 (hide [D] (upd H5 D _)) ∧ upd H5 D _ D = _
    rw [hide_upd mD]
    refine ⟨w.st _ _ e25 gH, eH.trans e25, ?_⟩
    rw [upd_same, List.take_succ, List.getElem?_eq_getElem hlt]
    show _ = some (HO.dT (rkL 0 (rs.take i ++ [rs[i]])))
    rw [rkL_app, ge i hlt, List.length_take, Nat.zero_add, Nat.min_eq_left (Nat.le_of_lt hlt)]
  · have e : i = rs.length := by omega
    subst e
    rw [List.take_length] at hD
    exact .inl ⟨w.stops H' gH', q.2 _ H' ((e1.trans eH).trans (.same hide_same)) ⟨D, rfl, hD⟩⟩
end
end K14
/-! KM: short words for comprehensions; the globals' names; the defs of kinds. -/
namespace K14
open PySem PySem.Spec PyProof.Rows L2

theorem pts_weak {X : Cx} {e : List Expr} {t t' : TT} (h : PTs X e t) (w : ∀ σ H Q, t' σ H Q → t σ H Q) : PTs X e t' := ⟨fun pins s σ H Q I q => h.run pins s σ H Q I (w σ H Q q)⟩
theorem tts_nil {X : Cx} {ρ : Rho} : PTs X [] (tTB ρ true) := pts_weak pts_nil fun σ H Q q => q.2 H (Gr.refl H)
theorem tts_one {X : Cx} {ρ : Rho} {e : Expr} {b : Bool} (h : PT X e (tTB ρ b)) : PTs X [e] (tTB ρ b) := pts_one h
section
variable {X : Cx} {elt : Expr} {ρ : Rho} {pos p : Pos} {n : Nat} {item : Nat → Ty} {scope : Scope} {el : Nat → Ty} {x : Str} {tg c : Expr} {vs : List Nat} {nxt : Nat → Rho} {b : Nat → Bool}
abbrev BlkX (X : Cx) (s : Shared) (H : Hp) (scope : Scope) (cl : List (Str × Addr)) (C : Addr) (fp : List Addr) : Cx := X.blk s H scope (compEnvC scope cl C X.env) fp
/-- [.. for x in ..] -/
theorem lcok (hg : ∀ j, j < n → ∀ (s : Shared) (H : Hp) (C : Addr) (cl : List (Str × Addr)) (fp : List Addr), PG (BlkX X s H scope cl C fp) tg (gT vs (wipeR ρ vs) (item j) (nxt j)))
    (he : ∀ j, j < n → ∀ (s : Shared) (H : Hp) (C : Addr) (cl : List (Str × Addr)) (fp : List Addr), PE (BlkX X s H scope cl C fp) elt (tT (nxt j) (el j))) : LcOk X tg elt [] scope ρ vs n item (fun _ => true) el nxt :=
  ⟨fun j hj s H C cl fp => hg j hj s H C cl fp, fun j hj s H C cl fp => tts_nil, fun j hj _ s H C cl fp => he j hj s H C cl fp⟩
/-- [.. for x in .. if c] -/
theorem lcokIf (hg : ∀ j, j < n → ∀ (s : Shared) (H : Hp) (C : Addr) (cl : List (Str × Addr)) (fp : List Addr), PG (BlkX X s H scope cl C fp) tg (gT vs (wipeR ρ vs) (item j) (nxt j)))
    (ht : ∀ j, j < n → ∀ (s : Shared) (H : Hp) (C : Addr) (cl : List (Str × Addr)) (fp : List Addr), PT (BlkX X s H scope cl C fp) c (tTB (nxt j) (b j)))
    (he : ∀ j, j < n → b j = true → ∀ (s : Shared) (H : Hp) (C : Addr) (cl : List (Str × Addr)) (fp : List Addr), PE (BlkX X s H scope cl C fp) elt (tT (nxt j) (el j))) : LcOk X tg elt [c] scope ρ vs n item b el nxt :=
  ⟨fun j hj s H C cl fp => hg j hj s H C cl fp, fun j hj s H C cl fp => tts_one (ht j hj s H C cl fp), fun j hj hb s H C cl fp => he j hj hb s H C cl fp⟩
end
theorem took_const {α : Type} (n : Nat) (a : α) : took n (fun _ => true) (fun _ => a) = List.replicate n a := by
  rw [took_range n _ _ fun _ _ => rfl]
  apply List.ext_getElem
  · simp
  · intro i h1 h2
    simp
section
variable {X : Cx} {tg e elt : Expr} {ρ : Rho} {pos p p2 : Pos} {n : Nat} {item : Nat → Ty} {scope : Scope} {nxt : Nat → Rho}
/-- all([.. for .. in ..]) where each is True -/
theorem te_allT (own : List (Str × Nat)) (hall : X.mg "all" = none) (hc : X.calm = true) (hN : X.N.Nodup) (hi : PI X tg e (tI ρ n item)) (hn : n ≤ 1000000) (ok : BlkOk X.N X.env.scope scope own)
    (L : LcOk X tg elt [] scope ρ (own.map (·.2)) n item (fun _ => true) (fun _ => tyD X.K (.bool true)) nxt) (hg : Gl X "all" := by rfl) (hs1 : starEach [.ListComp elt [⟨tg, e, [], 0⟩] scope p] X.env = [(false, eval (.ListComp elt [⟨tg, e, [], 0⟩] scope p) X.env)] := by rfl)
    (hs : ∀ x, foldedSetIterable e X.env x = pure x := by intro _; rfl) : PE X (.Call (.Name "all" p2) [.ListComp elt [⟨tg, e, [], 0⟩] scope p] [] pos) (tT ρ (dB X true)) := by
  have h : PE X (.ListComp elt [⟨tg, e, [], 0⟩] scope p) (tT ρ (tyD X.K (.list ((List.replicate n true).map .bool)))) := te_lcL own hc hN hi hn ok L (by
    rw [took_const, List.map_replicate]) hs
  have q := te_all (p := p2) (pos := pos) hc hall h hg hs1
  have e : (List.replicate n true).all id = true := by simp
  rw [e] at q
  exact q
end
theorem te_b {X : Cx} {ρ : Rho} {e : Expr} {b c : Bool} (h : PE X e (tT ρ (dB X b))) (q : b = c) : PE X e (tT ρ (dB X c)) := q ▸ h
theorem te_d {X : Cx} {ρ : Rho} {e : Expr} {b c : PyData} (h : PE X e (tT ρ (tyD X.K b))) (q : b = c) : PE X e (tT ρ (tyD X.K c)) := q ▸ h
/-! ### the names of the built-ins are free -/
structure Free (mg : Str → Option Value) : Prop where
  isinstance : mg "isinstance" = none
  int : mg "int" = none
  bool : mg "bool" = none
  str : mg "str" = none
  tuple : mg "tuple" = none
  list : mg "list" = none
  len : mg "len" = none
  all : mg "all" = none
  zip : mg "zip" = none
  range : mg "range" = none
  enumerate : mg "enumerate" = none
  sorted : mg "sorted" = none
  set : mg "set" = none
  super : mg "super" = none
def abc : Str := "abcdefghijklmnopqrstuvwxyz"
def manners : List Str := ["ranked", "rightranked", "leftmost", "rightmost", "once"]
/-- the constants of the module -/
structure Cons (K : PySem.W.Frag) (mg : Str → Option Value) : Prop where
  letters : ∃ t, mg "LETTERS" = some (.str abc t)
  manners : ∃ a, mg "MANNERS" = some (.ref a) ∧ ∀ H, L2.Dp K H (.ref a) (.tuple (manners.map .str))
theorem te_glob {X : Cx} {ρ : Rho} {T : Ty} {x : Str} {p : Pos} {v : V} {u : Value} (hm : X.mg x = some u) (hr : RelV v u) (hv : ∀ H, T.p H v) (hg : Gl X x := by rfl) (hd : (x == ("__debug__" : Str)) = false := by decide) : PE X (.Name x p) (tT ρ T) := te_c (pe_glob hg hm hr hd) hv
theorem te_LETTERS {X : Cx} {ρ : Rho} {p : Pos} (C : Cons X.K X.mg) (hg : Gl X "LETTERS" := by rfl) : PE X (.Name "LETTERS" p) (tT ρ (dS X abc)) := by
  obtain ⟨t, h⟩ := C.letters
  exact te_glob (v := .str abc) h ⟨t, rfl⟩ (fun H => Dp.str _) hg
theorem te_MANNERS {X : Cx} {ρ : Rho} {p : Pos} (C : Cons X.K X.mg) (hg : Gl X "MANNERS" := by rfl) : PE X (.Name "MANNERS" p) (tT ρ (tyN X.K (.tuple (manners.map .str)))) := by
  obtain ⟨a, h, hd⟩ := C.manners
  exact te_glob (v := .ref a) h rfl (fun H => hd H) hg
/-! ### texts -/
/-- one sign -/
abbrev sgn (c : Nat) : Str := ⟨#[c]⟩
def Low (z : Str) : Prop := ∀ c ∈ z.cps.toList, c ∈ abc.cps.toList
structure TextOk (z : Str) : Prop where
  low : Low z
  len : z.length ≤ 1000
theorem TextOk.size {z : Str} (h : TextOk z) : z.cps.size ≤ 1000 := h.len
theorem cps_mem {z : Str} {j : Nat} (h : j < z.cps.size) : z.cps.getD j 0 ∈ z.cps.toList := by
  have e : z.cps.getD j 0 = z.cps[j] := by simp [Array.getD_eq_getD_getElem?, h]
  rw [e]
  exact Array.getElem_mem_toList h
section
variable {P : Program} {w : World} {K : PySem.W.Frag} {mg : Str → Option Value} {base : Heap} {f : Addr} {fd : FuncData}
/-! is_number -/
theorem sc11 : FnScope ["thing"] ["thing"] (scopeAt 11) := ⟨rfl, rfl, rfl, by decide +kernel, rfl, by decide +kernel, by decide +kernel⟩
theorem ok_is_number (F : DefAt K "is_number" 11 f fd) (hm : mg "is_number" = some (.ref f)) (c10 : Cal P w K mg base 1 "is_integer" (fun i : Int => [tyD K (.int i)]) (fun _ => tyD K (.bool true))) :
    Cal P w K mg base 2 "is_number" (fun i : { i : Int // 0 ≤ i } => [tyD K (.int i.1)]) (fun _ => tyD K (.bool true)) := by
  refine cal_of F hm sc11 (fun kV doc pm an cdv ct us hl => ?_) (fun _ => rfl) fun i cdv A outer s H E hr => ?_
  · match us, hl with
    | [a], _ => rfl
  · refine ts_one (ts_ret (te_and (c := true) (d := true) (te_fn (i := i.1) c10 hr (ta_one (te_var 0) rfl)) fun _ => te_one ?_))
    exact te_b (te_ge (te_var 0) te_int) (decide_eq_true i.2)
/-! is_text -/
theorem sc12 : FnScope ["thing", "sign"] ["thing"] (scopeAt 12) := ⟨rfl, rfl, rfl, by decide +kernel, rfl, by decide +kernel, by decide +kernel⟩
theorem ok_is_text (F : DefAt K "is_text" 12 f fd) (hm : mg "is_text" = some (.ref f)) (B : Free mg) (C : Cons K mg) :
    Cal P w K mg base 1 "is_text" (fun i : { z : Str // TextOk z } => [tyD K (.str i.1)]) (fun _ => tyD K (.bool true)) := by
  refine cal_of F hm sc12 (fun kV doc pm an cdv ct us hl => ?_) (fun _ => rfl) fun i cdv A outer s H E hr => ?_
  · match us, hl with
    | [a], _ => rfl
  · refine ts_one (ts_ret (te_and (c := true) (d := true) (te_isi B.isinstance (te_var 0) B.str PyProof.Rows.boot_str rfl) fun _ => te_one ?_))
    refine te_allT [("sign", 1)] B.all rfl sc12.nd (ti_str (te_var 0 (T := tyD K (.str i.1)))) (Nat.le_trans i.2.size (by decide)) (blkOk_by (N := ["thing", "sign"]) (sc := scopeAt 12) (by decide +kernel)) (lcok (nxt := fun j => _) (fun j hj s H C' cl fp => tg_name 1 sc12.nd (by decide)) (fun j hj s H C' cl fp => ?_))
    refine te_le (te_inS (te_var 1) (te_LETTERS C)) ?_
    rw [decide_eq_true (i.2.low _ (cps_mem hj))]
    exact Ty.le.rfl
end
end K14
/-! KN: the defs of kinds: they hold of what is given in the right form. -/
namespace K14
open PySem PySem.Spec PyProof.Rows L2

/-! ### slices -/
section
variable {α : Type}
theorem cutL_from (xs : List α) (a : Nat) : cutL xs (some (a : Int)) none = xs.drop a := by
  unfold cutL
  rw [HT.sIx_nat, HT.sIx_none]
  rw [List.take_of_length_le (by rw [List.length_drop]; omega)]
  by_cases h : a ≤ xs.length
  · rw [Nat.min_eq_left h]
  · rw [Nat.min_eq_right (by omega), List.drop_of_length_le (Nat.le_refl _), List.drop_of_length_le (by omega)]
theorem cutL_to (xs : List α) (b : Nat) : cutL xs none (some (b : Int)) = xs.take b := by
  unfold cutL
  rw [HT.sIx_nat, HT.sIx_none, Nat.sub_zero, List.drop_zero]
  by_cases h : b ≤ xs.length
  · rw [Nat.min_eq_left h]
  · rw [Nat.min_eq_right (by omega), List.take_of_length_le (Nat.le_refl _), List.take_of_length_le (by omega)]
theorem cutL_last (xs : List α) : cutL xs none (some (-1)) = xs.dropLast := by
  unfold cutL
  have e : HT.sIx xs.length xs.length (some (-1)) = xs.length - 1 := by
    show (if (-1 : Int) < 0 then ((-1 : Int) + (xs.length : Int)).toNat else min (-1 : Int).toNat xs.length) = xs.length - 1
    rw [if_pos (by decide)]
    omega
  rw [e, HT.sIx_none, Nat.sub_zero, List.drop_zero, List.dropLast_eq_take]
end
/-! ### the forms -/
def strsD (xs : List Str) : PyData := .tuple (xs.map .str)
structure Tb where
  ls : List Nat
  rs : List Rule
  m : Str
def letD (cs : List Nat) : PyData := strsD (cs.map sgn)
def tbD (T : Tb) : PyData := .tuple [letD T.ls, rulesD T.rs, .str T.m]
structure LetOk (cs : List Nat) : Prop where
  ne : cs ≠ []
  asc : cs.Pairwise (· < ·)
  low : ∀ c ∈ cs, c ∈ abc.cps.toList
  len : cs.length ≤ 26
/-- a text of these letters -/
structure WordOf (cs : List Nat) (z : Str) : Prop where
  of : ∀ c ∈ z.cps.toList, c ∈ cs
  len : z.length ≤ 1000
theorem WordOf.text {cs : List Nat} {z : Str} (L : LetOk cs) (h : WordOf cs z) : TextOk z := ⟨fun c hc => L.low c (h.of c hc), h.len⟩
structure RuleOf (cs : List Nat) (p : Rule) : Prop where
  l : WordOf cs p.1
  r : WordOf cs p.2
  nl : p.1 ≠ ""
  nr : p.2 ≠ ""
structure PieceOk (z : Str) : Prop where
  text : TextOk z
  ne : z ≠ ""
theorem sgn_ne (c : Nat) : sgn c ≠ "" := fun h => by
  have e : (1 : Nat) = 0 := congrArg (fun z : Str => z.cps.size) h
  cases e
theorem getD_map {α β : Type} (f : α → β) (d : β) (xs : List α) (i : Nat) (hi : i < xs.length) : (xs.map f).getD i d = f xs[i] := by
  rw [List.getD_eq_getElem?_getD, List.getElem?_map, List.getElem?_eq_getElem hi]
  rfl
theorem units65 {k : Nat} {A : Around} (hr : Room k A) : A.units + 65 < cLine := by
  have := hr.un
  omega
section
variable {P : Program} {w : World} {K : PySem.W.Frag} {mg : Str → Option Value} {base : Heap} {f : Addr} {fd : FuncData}
abbrev CText (P : Program) (w : World) (K : PySem.W.Frag) (mg : Str → Option Value) (base : Heap) : Prop := Cal P w K mg base 1 "is_text" (fun i : { z : Str // TextOk z } => [tyD K (.str i.1)]) (fun _ => tyD K (.bool true))
theorem sc13 : FnScope ["thing"] ["thing"] (scopeAt 13) := ⟨rfl, rfl, rfl, by decide +kernel, rfl, by decide +kernel, by decide +kernel⟩
theorem sgn_text {c : Nat} (h : c ∈ abc.cps.toList) : TextOk (sgn c) := ⟨fun d hd => by
  have e : d = c := by simpa using hd
  exact e ▸ h, by show 1 ≤ 1000; decide⟩
theorem ok_is_letter (F : DefAt K "is_letter" 13 f fd) (hm : mg "is_letter" = some (.ref f)) (B : Free mg) (c12 : CText P w K mg base) :
    Cal P w K mg base 2 "is_letter" (fun i : { c : Nat // c ∈ abc.cps.toList } => [tyD K (.str (sgn i.1))]) (fun _ => tyD K (.bool true)) := by
  refine cal_of F hm sc13 (fun kV doc pm an cdv ct us hl => ?_) (fun _ => rfl) fun i cdv A outer s H E hr => ?_
  · match us, hl with
    | [a], _ => rfl
  · exact ts_one (ts_ret (te_and (c := true) (d := true) (te_fn (i := ⟨sgn i.1, sgn_text i.2⟩) c12 hr (ta_one (te_var 0) rfl)) fun _ => te_one (te_b (te_eqI (te_len (n := 1) B.len (te_var 0)) te_int) rfl)))
theorem sc14 : FnScope ["thing"] ["thing"] (scopeAt 14) := ⟨rfl, rfl, rfl, by decide +kernel, rfl, by decide +kernel, by decide +kernel⟩
theorem ok_is_piece (F : DefAt K "is_piece" 14 f fd) (hm : mg "is_piece" = some (.ref f)) (c12 : CText P w K mg base) :
    Cal P w K mg base 2 "is_piece" (fun i : { z : Str // PieceOk z } => [tyD K (.str i.1)]) (fun _ => tyD K (.bool true)) := by
  refine cal_of F hm sc14 (fun kV doc pm an cdv ct us hl => ?_) (fun _ => rfl) fun i cdv A outer s H E hr => ?_
  · match us, hl with
    | [a], _ => rfl
  · exact ts_one (ts_ret (te_and (c := true) (d := true) (te_fn (i := ⟨i.1, i.2.text⟩) c12 hr (ta_one (te_var 0) rfl)) fun _ => te_one (te_b (te_neS (te_var 0) te_str) (by rw [decide_eq_false i.2.ne]; rfl))))
structure RowOk (xs : List Str) : Prop where
  each : ∀ x ∈ xs, PieceOk x
  len : xs.length ≤ 1000
theorem sc15 : FnScope ["thing", "one"] ["thing"] (scopeAt 15) := ⟨rfl, rfl, rfl, by decide +kernel, rfl, by decide +kernel, by decide +kernel⟩
theorem ok_is_row (F : DefAt K "is_row" 15 f fd) (hm : mg "is_row" = some (.ref f)) (B : Free mg) (c14 : Cal P w K mg base 2 "is_piece" (fun i : { z : Str // PieceOk z } => [tyD K (.str i.1)]) (fun _ => tyD K (.bool true))) :
    Cal P w K mg base 3 "is_row" (fun i : { xs : List Str // RowOk xs } => [tyD K (strsD i.1)]) (fun _ => tyD K (.bool true)) := by
  refine cal_of F hm sc15 (fun kV doc pm an cdv ct us hl => ?_) (fun _ => rfl) fun i cdv A outer s H E hr => ?_
  · match us, hl with
    | [a], _ => rfl
  · refine ts_one (ts_ret (te_and (c := true) (d := true) (te_isi B.isinstance (te_var 0 (T := tyD K (strsD i.1))) B.tuple PyProof.Rows.boot_tuple rfl) fun _ => te_one ?_))
    have hl : (i.1.map PyData.str).length = i.1.length := List.length_map ..
    refine te_allT [("one", 1)] B.all rfl sc15.nd (ti_tup (te_var 0 (T := tyD K (strsD i.1)))) (by rw [hl]; exact Nat.le_trans i.2.len (by decide)) (blkOk_by (N := ["thing", "one"]) (sc := scopeAt 15) (by decide +kernel)) (lcok (nxt := fun j => _) (fun j hj s H C' cl fp => tg_name 1 sc15.nd (by decide)) (fun j hj s H C' cl fp => ?_))
    rw [hl] at hj
    refine te_fn (i := ⟨i.1[j], i.2.each _ (List.getElem_mem hj)⟩) c14 hr (ta_one ?_ rfl)
    show PE _ _ (tT _ (tyD K (.str i.1[j])))
    rw [← getD_map PyData.str .none i.1 j hj]
    exact te_var 1
end
end K14
/-! KF: match over written texts. -/
namespace K14
open PySem PySem.Spec PyProof.Rows L2
section
variable {X : Cx} {ρ : Rho} {D : TEnds} {body : List Stmt} {rest : List MatchCase} {z y : Str} {p1 p2 pos : Pos} {j : Nat} {first : Bool}
/-- the cases, the subject the text z -/
structure MCs (X : Cx) (cs : List MatchCase) (z : Str) (first : Bool) (ρ : Rho) (D : TEnds) : Prop where
  run : ∀ (pins : List (Addr × Obj)) (s : Shared) (σ : L2.St) (H : Hp) (D0 : Ends) (u : Value), Inv X pins σ H s → RelV (.str z) u → EnvT H σ ρ → Meets D D0 H → wpAny (model X.prog X.w) X.A (matchCases cs X.env u first) (SP X pins D0) X.xe s
theorem eq_str {pins : List (Addr × Obj)} {s : Shared} {σ : L2.St} {H : Hp} {u v : Value} {Q : Value → Shared → Prop} (I : Inv X pins σ H s) (ru : RelV (.str z) u) (rv : RelV (.str y) v) (h : ∀ s', Inv X pins σ H s' → Q (.bool (decide (z = y))) s') : wpAny (model X.prog X.w) X.A (compareOp .Eq u v) Q X.xe s :=
  thn (op_eq pins s σ H (.str z) (.str y) u v (fun w H' => w = .bl (decide (z = y)) ∧ H' = H) I ru rv ⟨rfl, by
    have e : decide (V.str z = V.str y) = decide (z = y) := by simp
    exact ⟨by rw [e], rfl⟩⟩) fun w s' ⟨x, H', I', r, e1, e2⟩ => by
    subst e1 e2
    cases r
    exact h s' I'
theorem mc_hit (e : z = y) (hb : PSs X body (tS ρ D)) : MCs X (⟨.MatchValue (.Constant (.str y) j p1) p2, none, body⟩ :: rest) z first ρ D := ⟨fun pins s σ H D0 u I ru hE hM => by
  unfold matchCases
  refine wpAny_bind (wpAny_holding ?_)
  unfold matchPattern
  refine wpAny_bind (thn (pe_str.run pins s σ H (fun v H' => v = .str y ∧ H' = H) I ⟨rfl, rfl⟩) fun v s1 ⟨x, H', I1, r, e1, e2⟩ => ?_)
  subst e1 e2
  refine wpAny_bind (wpAny_standAt ?_)
  refine wpAny_bind (eq_str I1 ru r fun s2 I2 => ?_)
  rw [decide_eq_true e]
  refine wpAny_bind (wpAny_truthy_bool ?_)
  refine wpAny_pure ?_
  refine wpAny_bind (wpAny_holding (wpAny_pure ?_))
  refine wpAny_bind (wpAny_pure ?_)
  dsimp only
  rw [if_pos rfl]
  exact hb.run pins s2 σ H' D0 I2 ⟨hE, hM⟩⟩
theorem mc_miss (e : z ≠ y) (hr : MCs X rest z false ρ D) : MCs X (⟨.MatchValue (.Constant (.str y) j p1) p2, none, body⟩ :: rest) z first ρ D := ⟨fun pins s σ H D0 u I ru hE hM => by
  unfold matchCases
  refine wpAny_bind (wpAny_holding ?_)
  unfold matchPattern
  refine wpAny_bind (thn (pe_str.run pins s σ H (fun v H' => v = .str y ∧ H' = H) I ⟨rfl, rfl⟩) fun v s1 ⟨x, H', I1, r, e1, e2⟩ => ?_)
  subst e1 e2
  refine wpAny_bind (wpAny_standAt ?_)
  refine wpAny_bind (eq_str I1 ru r fun s2 I2 => ?_)
  rw [decide_eq_false e]
  refine wpAny_bind (wpAny_truthy_bool ?_)
  refine wpAny_pure ?_
  exact hr.run pins s2 σ H' D0 u I2 ru hE hM⟩
theorem mc_any (hb : PSs X body (tS ρ D)) : MCs X (⟨.MatchAs none none p1, none, body⟩ :: rest) z first ρ D := ⟨fun pins s σ H D0 u I ru hE hM => by
  unfold matchCases
  refine wpAny_bind (wpAny_holding ?_)
  unfold matchPattern
  refine wpAny_pure ?_
  refine wpAny_bind (wpAny_holding (wpAny_pure ?_))
  refine wpAny_bind (wpAny_pure ?_)
  dsimp only
  rw [if_pos rfl]
  exact hb.run pins s σ H D0 I ⟨hE, hM⟩⟩
/-- match e: .. -/
theorem ts_match {e : Expr} {cs : List MatchCase} (he : PE X e (tT ρ (tyD X.K (.str z)))) (hc : MCs X cs z true ρ D) : PS X (.Match e cs pos) (tS ρ D) := ⟨fun pins s σ H D0 I ⟨hE, hM⟩ => by
  unfold exec
  refine wpAny_bind (wpAny_standAt ?_)
  refine wpAny_bind (thn (he.run pins s σ H (fun v H' => v = .str z ∧ Gr H H') I ⟨hE, fun v H' g hv => ⟨Dp.str_ hv, g⟩⟩) fun v s1 ⟨x, H', I1, r, e1, g⟩ => ?_)
  subst e1
  exact hc.run pins s1 σ H' D0 v I1 r (hE.mono g) (hM.mono g)⟩
end
end K14
/-! KO: tuple(text), list(text); starred displays. -/
namespace K14
open PySem PySem.Spec PyProof.Rows L2
/-- a text's signs -/
def sigs (z : Str) : List Str := z.cps.toList.map sgn
theorem signs_vals {z : Str} {acc : Array Value} (h : ItemsOf (SignAt z) acc z.cps.size) : Vals ((sigs z).map V.str) acc.toList := by
  obtain ⟨h1, h2⟩ := h
  have key : ∀ (l : List Value) (cs : List Nat), l.length = cs.length → (∀ (j : Nat) (v : Value), l[j]? = some v → ∃ (c : Nat) (u : Tok), cs[j]? = some c ∧ v = Value.str ⟨#[c]⟩ u) → Vals ((cs.map sgn).map V.str) l := by
    intro l
    induction l with
    | nil =>
      intro cs hl _
      cases cs with
      | nil => exact .nil
      | cons c cs => cases hl
    | cons v l ih =>
      intro cs hl hv
      cases cs with
      | nil => cases hl
      | cons c cs =>
        obtain ⟨c', u, e1, e2⟩ := hv 0 v rfl
        cases e1
        exact .cons ⟨u, e2⟩ (ih cs (Nat.succ.inj hl) fun j v' h => hv (j + 1) v' h)
  refine key acc.toList z.cps.toList (by simp [h1]) fun j v hj => ?_
  obtain ⟨c, u, e1, e2⟩ := h2 j v (by simpa using hj)
  exact ⟨c, u, by simpa using e1, e2⟩
section
variable {X : Cx}
theorem sigs_len (z : Str) : (sigs z).length = z.cps.size := by simp [sigs]
theorem call_tupS (hc : X.calm = true) : CallR X (.type "tuple") (fun xs H Q => ∃ z : Str, xs = [.str z] ∧ z.length ≤ 1000000 ∧ ∀ l, H l = none → Q (.ref l) (upd H l (.tup ((sigs z).map V.str)))) := by
  intro pins s σ H xs us Q I r h
  obtain ⟨z, rfl, hz, q⟩ := h
  cases r with
  | cons r rr =>
  cases rr
  obtain ⟨t, rfl⟩ := r
  have hz' : z.cps.size ≤ sizeLine := by
    rw [sizeLine_eq]
    exact Nat.le_trans hz (by decide)
  refine call_tuple_str (hsz := hz') (I.ok.hd hc) z t fun h' tk acc hk hacc => ?_
  have I1 : Inv X pins σ H { s with heap := h', toks := tk } := I.kept (t' := tk) hk
  refine ⟨.ref h'.objs.size, _, I1.laid (a := h'.objs.size) (o := .tup ((sigs z).map V.str)) (t' := tk) (fun b o e => Heap.get?_push_of_some _ e) (Nat.le_refl _) ⟨?_, acc.toList, signs_vals hacc, _, Heap.get?_push_size _ rfl, rfl, 0, by simp⟩, rfl, q _ (I1.hok.fresh (Nat.le_refl _))⟩
  rw [List.length_map, sigs_len]
  exact hz'
theorem call_lstS (hc : X.calm = true) : CallR X (.type "list") (fun xs H Q => ∃ z : Str, xs = [.str z] ∧ z.length ≤ 1000000 ∧ ∀ l, H l = none → Q (.ref l) (upd H l (.lst ((sigs z).map V.str)))) := by
  intro pins s σ H xs us Q I r h
  obtain ⟨z, rfl, hz, q⟩ := h
  cases r with
  | cons r rr =>
  cases rr
  obtain ⟨t, rfl⟩ := r
  have hz' : z.cps.size ≤ sizeLine := by
    rw [sizeLine_eq]
    exact Nat.le_trans hz (by decide)
  refine call_list_str (hn := hz') (I.ok.hd hc) z t fun h' tk acc c hk hS hacc => ?_
  refine ⟨.ref s.heap.objs.size, _, I.laid (a := s.heap.objs.size) (o := .lst ((sigs z).map V.str)) (t' := tk) hk (Nat.le_refl _) ⟨?_, acc.toList, c, signs_vals hacc, by simpa using hS⟩, rfl, q _ (I.hok.fresh (Nat.le_refl _))⟩
  rw [List.length_map, sigs_len]
  exact hz'
variable {a : Expr} {p pos : Pos} {ρ : Rho} {z : Str}
theorem dp_strs {K : PySem.W.Frag} {H : Hp} : ∀ xs : List Str, DpAll K H (xs.map V.str) (xs.map PyData.str)
  | [] => .nil
  | x :: xs => .cons (.str x) (dp_strs xs)
theorem isRs_strs (xs : List Str) : isRs (xs.map PyData.str) = false := by
  cases xs <;> rfl
theorem te_tupS (hc : X.calm = true) (hm : X.mg "tuple" = none) (ha : PE X a (tT ρ (dS X z))) (hz : z.length ≤ 1000000) (hg : Gl X "tuple" := by rfl) (hs : starEach [a] X.env = [(false, eval a X.env)] := by rfl) : PE X (.Call (.Name "tuple" p) [a] [] pos) (tT ρ (tyD X.K (strsD (sigs z)))) :=
  te_t1 (call_tupS hc) hm PyProof.Rows.boot_tuple ha (fun v H Q hv k => ⟨z, by rw [Dp.str_ hv], hz, fun l hl => k _ _ (Gr.new hl) (Dp.tupP (isRs_strs _) upd_same (dp_strs _))⟩) hg hs
theorem te_lstS (hc : X.calm = true) (hm : X.mg "list" = none) (ha : PE X a (tT ρ (dS X z))) (hz : z.length ≤ 1000000) (hg : Gl X "list" := by rfl) (hs : starEach [a] X.env = [(false, eval a X.env)] := by rfl) : PE X (.Call (.Name "list" p) [a] [] pos) (tT ρ (tyTL X.K ((sigs z).map .str))) :=
  te_t1 (call_lstS hc) hm PyProof.Rows.boot_list ha (fun v H Q hv k => ⟨z, by rw [Dp.str_ hv], hz, fun l hl => k _ _ (Gr.new hl) ⟨l, _, rfl, upd_same, dp_strs _⟩⟩) hg hs
/-! ### starred displays -/
variable {es : List Expr} {Ts : List Ty} {ds : List PyData} {e : Expr}
theorem ta_starT (h : PE X e (tT ρ (tyD X.K (.tuple ds)))) (hr : PA X es (tTA ρ Ts)) (hs : starEach (.Starred e p :: es) X.env = (true, eval e X.env) :: starEach es X.env := by rfl) : PA X (.Starred e p :: es) (tTA ρ (ds.map (tyD X.K) ++ Ts)) :=
  pa_weak (StX.pa_star h hr hs) fun σ H Q q => ⟨q.1, fun x H1 e1 hx => by
    obtain ⟨b, xs, rfl, h1, h2⟩ := Dp.tup_ hx
    exact ⟨b, xs, rfl, .inl h1.sq, q.1.mono e1, fun vs H2 e2 hv => q.2 _ H2 (e1.trans e2) (((AllT.ofData h2).mono e2).app hv)⟩⟩
theorem ta_starL (h : PE X e (tT ρ (tyTL X.K ds))) (hr : PA X es (tTA ρ Ts)) (hs : starEach (.Starred e p :: es) X.env = (true, eval e X.env) :: starEach es X.env := by rfl) : PA X (.Starred e p :: es) (tTA ρ (ds.map (tyD X.K) ++ Ts)) :=
  pa_weak (StX.pa_star h hr hs) fun σ H Q q => ⟨q.1, fun x H1 e1 ⟨b, xs, ex, h1, h2⟩ =>
    ⟨b, xs, ex, .inr (.of h1), q.1.mono e1, fun vs H2 e2 hv => q.2 _ H2 (e1.trans e2) (((AllT.ofData h2).mono e2).app hv)⟩⟩
theorem te_tupE {x1} (h : PA X es (tTA ρ Ts)) (e : Ts = ds.map (tyD X.K)) (hl : ds.length ≤ 100000 := by first | decide | exact Nat.le_of_ble_eq_true rfl) : PE X (.Tuple es x1 pos) (tT ρ (tyD X.K (.tuple ds))) := te_tup (e ▸ h) hl
theorem te_lstE (h : PA X es (tTA ρ Ts)) (e : Ts = ds.map (tyD X.K)) (hl : ds.length ≤ 100000 := by first | decide | exact Nat.le_of_ble_eq_true rfl) : PE X (.List es pos) (tT ρ (tyTL X.K ds)) := te_lst (e ▸ h) hl
end
end K14
/-! KP: the joins: places_of, is_preferred, next_join, joined_at. -/
namespace K14
open PySem PySem.Spec PyProof.Rows L2

def pairAt (row : List Str) (i : Nat) : Rule := (row.getD i "", row.getD (i + 1) "")
/-- where a rule fits, and its rank -/
def pl (rs : List Rule) (row : List Str) : List (Nat × Nat) := took (row.length - 1) (fun i => (rankOf rs (pairAt row i)).isSome) (fun i => (i, (rankOf rs (pairAt row i)).getD 0))
def placeD (p : Nat × Nat) : PyData := .tuple [.int (p.1 : Nat), .int (p.2 : Nat)]
theorem took_map' {α β : Type} (n : Nat) (p : Nat → Bool) (el : Nat → α) (f : α → β) : took n p (fun i => f (el i)) = (took n p el).map f := took_D n p el f
/-- x, y = a pair of data -/
theorem tg_pairD {X : Cx} {K : PySem.W.Frag} {vs : List Nat} {ρ : Rho} {d1 d2 : PyData} {x y : Str} {p1 p2 pos : Pos} {k : Nat} (i j : Nat) (hc : X.calm = true) (hN : X.N.Nodup) (vi : i ∈ vs) (vj : j ∈ vs) (hK : X.K = K := by rfl) (hi : X.N[i]? = some x := by rfl) (hj : X.N[j]? = some y := by rfl)
    (hx : Loc X.env.scope x := by first | exact Or.inl rfl | exact Or.inr rfl) (hy : Loc X.env.scope y := by first | exact Or.inl rfl | exact Or.inr rfl) (hfx : X.fn x = true ∨ X.env.scope.names.lookup x = some .local := by first | exact .inl rfl | exact .inr rfl) (hfy : X.fn y = true ∨ X.env.scope.names.lookup y = some .local := by first | exact .inl rfl | exact .inr rfl) :
    PG X (.Tuple [.Name x p1, .Name y p2] k pos) (gT vs ρ (tyD K (.tuple [d1, d2])) ((ρ.set i (some (tyD K d1))).set j (some (tyD K d2)))) := by
  subst hK
  exact tg_tup hc (tgs_cons (tg_name i hN vi hi hx hfx) (tgs_cons (tg_name j hN vj hj hy hfy) tgs_nil))
theorem getD_str (xs : List Str) (i : Nat) : (∃ z, (xs.map PyData.str).getD i .none = .str z) ∨ (xs.map PyData.str).getD i .none = .none := by
  rw [List.getD_eq_getElem?_getD, List.getElem?_map]
  cases xs[i]? with
  | none => exact .inr rfl
  | some z => exact .inl ⟨z, rfl⟩
theorem noRs_row (row : List Str) (i : Nat) : isRs [(row.map PyData.str).getD i .none, (cutL (row.map PyData.str) (some ((1 : Nat) : Int)) none).getD i .none] = false := by
  rcases getD_str row i with ⟨z, e⟩ | e <;> rw [e] <;> rfl
theorem pair_at (row : List Str) (j : Nat) (hj : j < row.length - 1) : PyData.tuple [(row.map PyData.str).getD j .none, (cutL (row.map PyData.str) (some ((1 : Nat) : Int)) none).getD j .none] = pairD (pairAt row j) := by
  have h1 : j < row.length := by omega
  have h2 : j + 1 < row.length := by omega
  have e1 : (row.map PyData.str).getD j .none = .str (row.getD j "") := by
    rw [getD_map PyData.str .none row j h1, List.getD_eq_getElem?_getD, List.getElem?_eq_getElem h1]
    rfl
  have e2 : (cutL (row.map PyData.str) (some ((1 : Nat) : Int)) none).getD j .none = .str (row.getD (j + 1) "") := by
    rw [cutL_from, List.getD_eq_getElem?_getD, List.getElem?_drop, Nat.add_comm 1 j, List.getElem?_map, List.getElem?_eq_getElem h2, List.getD_eq_getElem?_getD, List.getElem?_eq_getElem h2]
    rfl
  rw [e1, e2]
  rfl
/-- the forms that these defs are given -/
structure TbOk (T : Tb) : Prop where
  ls : LetOk T.ls
  rs : ∀ p ∈ T.rs, RuleOf T.ls p
  nd : T.rs.Nodup
  len : T.rs.length ≤ 1000
  m : T.m ∈ manners
section
variable {P : Program} {w : World} {K : PySem.W.Frag} {mg : Str → Option Value} {base : Heap} {f : Addr} {fd : FuncData}
/-! places_of -/
structure PlIx where
  T : Tb
  row : List Str
  nd : T.rs.Nodup
  len : T.rs.length ≤ 1000
  rl : row.length ≤ 1000
theorem sc25 : FnScope ["table", "row", "rank_by", "rank", "rule", "place", "pair"] ["table", "row"] (scopeAt 25) := ⟨rfl, rfl, rfl, by decide +kernel, rfl, by decide +kernel, by decide +kernel⟩
theorem ok_places_of (F : DefAt K "places_of" 25 f fd) (hm : mg "places_of" = some (.ref f)) (B : Free mg) :
    Cal P w K mg base 1 "places_of" (fun i : PlIx => [tyD K (tbD i.T), tyD K (strsD i.row)]) (fun i => tyD K (.tuple ((pl i.T.rs i.row).map placeD))) := by
  refine cal_of F hm sc25 (fun kV doc pm an cdv ct us hl => ?_) (fun _ => rfl) fun i cdv A outer s H E hr => ?_
  · match us, hl with
    | [a, b], _ => rfl
  · have hlr : (i.T.rs.map pairD).length = i.T.rs.length := List.length_map ..
    refine ts_cons (ts_set 2 (T := tyRk i.T.rs) ?_ ?_ sc25.nd (hx := Or.inr rfl))
    · refine te_rank (own := [("rank", 3), ("rule", 4)]) (item := fun j => tyD K (.tuple [.int (j : Nat), (i.T.rs.map pairD).getD j .none])) (nxt := fun j => _) (by have := units65 hr; exact Nat.lt_of_le_of_lt (Nat.le_add_right _ _) this) rfl sc25.nd ?_ (Nat.le_trans i.len (by decide)) i.nd (blkOk_by (N := ["table", "row", "rank_by", "rank", "rule", "place", "pair"]) (sc := scopeAt 25) (by decide +kernel))
        (fun j hj s' H' C cl fp => tg_pairD 3 4 rfl sc25.nd (by decide) (by decide)) (fun j hj s' H' C cl fp => ?_) (fun j hj s' H' C cl fp => te_var 3)
      · rw [← hlr]
        exact ti_enumT B.enumerate (te_ixT (d := rulesD i.T.rs) (te_var 0 (T := tyD K (tbD i.T))) (te_int (i := 1)) rfl)
      · rw [← getD_map pairD .none i.T.rs j hj]
        exact te_var 4
    · refine ts_one (ts_ret (T := tyD K (.tuple ((pl i.T.rs i.row).map placeD))) ?_)
      have hmin : min (i.row.map PyData.str).length (cutL (i.row.map PyData.str) (some ((1 : Nat) : Int)) none).length = i.row.length - 1 := by
        rw [cutL_from, List.length_drop, List.length_map]
        omega
      refine te_tupleL B.tuple (te_lcL (n := i.row.length - 1) (item := fun j => tyD K (.tuple [.int (j : Nat), .tuple [(i.row.map PyData.str).getD j .none, (cutL (i.row.map PyData.str) (some ((1 : Nat) : Int)) none).getD j .none]])) (p := fun j => (rankOf i.T.rs (pairAt i.row j)).isSome)
        (el := fun j => placeD (j, (rankOf i.T.rs (pairAt i.row j)).getD 0)) (nxt := fun j => _) [("place", 5), ("pair", 6)] rfl sc25.nd ?_ ?_ (blkOk_by (N := ["table", "row", "rank_by", "rank", "rule", "place", "pair"]) (sc := scopeAt 25) (by decide +kernel))
        (lcokIf (fun j hj s' H' C cl fp => tg_pairD 5 6 rfl sc25.nd (by decide) (by decide)) (fun j hj s' H' C cl fp => ?_) (fun j hj hb s' H' C cl fp => ?_)) ?_)
      · rw [← hmin]
        exact ti_enumZ (noRs_row i.row) B.enumerate B.zip (te_var 1 (T := tyD K (strsD i.row))) (te_slT (te_var 1 (T := tyD K (strsD i.row))) (to_some (te_int (i := 1))) to_none)
      · have := i.rl
        omega
      · exact (tt_inRk (p := pairAt i.row j) (rs := i.T.rs) (hu_of hr) (te_d (te_var 6) (pair_at i.row j hj)) (te_var 2))
      · obtain ⟨r, er⟩ := Option.isSome_iff_exists.mp hb
        rw [er]
        exact te_tup (ds := [.int (j : Nat), .int (r : Nat)]) (ta_cons (te_var 5) (ta_cons (te_getRk (p := pairAt i.row j) (rs := i.T.rs) (hu_of hr) (te_var 2) (te_d (te_var 6) (pair_at i.row j hj)) er (fun _ _ => rfl)) ta_nil))
      · exact took_D _ _ _ placeD
end
end K14
/-! KQ: is_preferred, next_join, joined_at. -/
namespace K14
open PySem PySem.Spec PyProof.Rows L2

/-! ### a def with keyword-only parameters that have defaults -/
/-- a def: its promise; dvs: what stands behind n written values; or m keywords ks are written -/
structure CalK (P : Program) (w : World) (K : PySem.W.Frag) (mg : Str → Option Value) (base : Heap) (k : Nat) (x : Str) {ι : Type} (A : ι → List Ty) (R : ι → Ty) (dvs : List V) (n : Nat) (ks : List Str) : Prop where
  ex : ∃ (f : Addr) (fd : FuncData) (ps : List Str), FnOk P w K mg base CX0 k f fd ps (spT A R) ∧ mg x = some (.ref f) ∧ PySem.W.keepIn K (.ref f) = true ∧ (∃ ds, Vals dvs ds ∧ Binds K fd ps ds) ∧ KBn K fd ps n ks (fun us ws => us ++ ws) (fun vs zs => vs ++ zs)
section
variable {X : Cx} {e : Expr} {es : List Expr} {pos p : Pos} {ρ : Rho} {x : Str} {k n : Nat} {ι : Type} {A : ι → List Ty} {R : ι → Ty} {P : Program} {w : World} {K : PySem.W.Frag} {mg : Str → Option Value} {base : Heap} {dvs : List V} {ks : List Str} {Ts Ds : List Ty}
/-- f(e, ..), the keyword-only parameters by their defaults -/
theorem te_fnD {i : ι} (C : CalK P w K mg base k x A R dvs n ks) (hr : Room k X.A) (ha : PA X (e :: es) (tTA ρ Ts)) (hdv : ∀ H, AllT H dvs Ds) (hi : A i = Ts ++ Ds) (hX : Of X P w K mg base := by exact ⟨rfl, rfl, rfl, rfl, rfl⟩) (hg : Gl X x := by rfl) (he : starEach (e :: es) X.env = (false, eval e X.env) :: starEach es X.env := by rfl)
    (hpl : (backTo pos (starEach es X.env)).any (·.1) = false := by rfl) (hdb : (x == ("__debug__" : Str)) = false := by decide) : PE X (.Call (.Name x p) (e :: es) [] pos) (tT ρ (R i)) := by
  obtain ⟨h1, h2, h3, h4, h5⟩ := hX
  subst h1 h2 h3 h4 h5
  obtain ⟨f, fd, ps, h1, h2, h3, ⟨ds, h4, h5⟩, h6⟩ := C.ex
  exact te_call h1 hr h2 h3 h5 h4 pass0 ha i hdv hi hg he hpl hdb
/-- f(e, .., k = v, ..) -/
theorem te_fnK {i : ι} {kws : List Keyword} (C : CalK P w K mg base k x A R dvs n ks) (hr : Room k X.A) (ha : PA X (e :: es) (tTA ρ Ts)) (hn : Ts.length = n) (hkw : PK X kws (tTA ρ Ds)) (hm : Ds.length = ks.length) (hi : A i = Ts ++ Ds) (hall : (backToKw pos (keywordEach kws X.env)).all (·.1.isSome) = true := by rfl)
    (hks : (backToKw pos (keywordEach kws X.env)).filterMap (·.1) = ks := by rfl) (hX : Of X P w K mg base := by exact ⟨rfl, rfl, rfl, rfl, rfl⟩) (hg : Gl X x := by rfl) (he : starEach (e :: es) X.env = (false, eval e X.env) :: starEach es X.env := by rfl)
    (hpl : ((backTo pos (starEach (e :: es) X.env)).any (·.1) || (backToKw pos (keywordEach kws X.env)).any (·.1.isNone)) = false := by rfl) (hdb : (x == ("__debug__" : Str)) = false := by decide) : PE X (.Call (.Name x p) (e :: es) kws pos) (tT ρ (R i)) := by
  obtain ⟨h1, h2, h3, h4, h5⟩ := hX
  subst h1 h2 h3 h4 h5
  obtain ⟨f, fd, ps, h1, h2, h3, _, h6⟩ := C.ex
  refine pe_weak (pe_callN h1 hr hg h2 h3 h6 pass0 ha hkw hall hks hdb he hpl) fun σ H Q q => ⟨q.1, fun vs H1 e1 hv => ⟨q.1.mono e1, fun zs H2 e2 hz => ⟨by rw [hv.length, hn], by rw [hz.length, hm], i, ?_, fun v H' e' p => q.2 v H' ((e1.trans e2).trans e') p⟩⟩⟩
  rw [hi]
  exact (hv.mono e2).app hz
theorem pk_weak {kws : List Keyword} {t t' : TA} (h : PK X kws t) (w : ∀ σ H Q, t' σ H Q → t σ H Q) : PK X kws t' := ⟨fun pos pins s σ H Q I q => h.run pos pins s σ H Q I (w σ H Q q)⟩
theorem tk_nil : PK X [] (tTA ρ []) := pk_weak pk_nil fun σ H Q q => q.2 [] H (Gr.refl H) True.intro
theorem tk_cons {nm : Option Str} {kpos : Pos} {kws : List Keyword} {T : Ty} (h : PE X e (tT ρ T)) (hr : PK X kws (tTA ρ Ts)) : PK X (⟨nm, e, kpos⟩ :: kws) (tTA ρ (T :: Ts)) := pk_weak (pk_cons h hr) fun σ H Q q =>
  ⟨q.1, fun x H1 e1 hx => ⟨q.1.mono e1, fun vs H2 e2 hv => q.2 (x :: vs) H2 (e1.trans e2) ⟨T.st e2 hx, hv⟩⟩⟩
end
section
variable {P : Program} {w : World} {K : PySem.W.Frag} {mg : Str → Option Value} {base : Heap} {f : Addr} {fd : FuncData}
/-! is_preferred -/
def pref (m : Str) (r o : Nat) : Bool := if m = "rightranked" then decide (r ≤ o) else if m = "leftmost" then false else if m = "rightmost" then true else decide (r < o)
theorem sc26 : FnScope ["manner", "rank", "other_rank"] ["manner", "rank", "other_rank"] (scopeAt 26) := ⟨rfl, rfl, rfl, by decide +kernel, rfl, by decide +kernel, by decide +kernel⟩
theorem ok_is_preferred (F : DefAt K "is_preferred" 26 f fd) (hm : mg "is_preferred" = some (.ref f)) :
    Cal P w K mg base 1 "is_preferred" (fun i : Str × Nat × Nat => [tyD K (.str i.1), tyD K (.int (i.2.1 : Nat)), tyD K (.int (i.2.2 : Nat))]) (fun i => tyD K (.bool (pref i.1 i.2.1 i.2.2))) := by
  refine cal_of F hm sc26 (fun kV doc pm an cdv ct us hl => ?_) (fun _ => rfl) fun i cdv A outer s H E hr => ?_
  · match us, hl with
    | [a, b, c], _ => rfl
  · obtain ⟨m, r, o⟩ := i
    refine ts_cons (ts_match (z := m) (te_var 0) ?_)
    by_cases h1 : m = "rightranked"
    · refine mc_hit h1 (ts_one (ts_ret (te_b (te_le' (te_var 1) (te_var 2)) ?_)))
      show decide ((r : Int) ≤ (o : Int)) = pref m r o
      unfold pref
      rw [if_pos h1]
      simp
    refine mc_miss h1 ?_
    by_cases h2 : m = "leftmost"
    · refine mc_hit h2 (ts_one (ts_ret (te_b te_bl ?_)))
      show false = pref m r o
      unfold pref
      rw [if_neg h1, if_pos h2]
    refine mc_miss h2 ?_
    by_cases h3 : m = "rightmost"
    · refine mc_hit h3 (ts_one (ts_ret (te_b te_bl ?_)))
      show true = pref m r o
      unfold pref
      rw [if_neg h1, if_neg h2, if_pos h3]
    refine mc_miss h3 (mc_any (ts_one (ts_ret (te_b (te_lt (te_var 1) (te_var 2)) ?_))))
    show decide ((r : Int) < (o : Int)) = pref m r o
    unfold pref
    rw [if_neg h1, if_neg h2, if_neg h3]
    simp
/-! joined_at -/
def joinN (row : List Str) (k : Nat) : List Str := row.take k ++ (row.getD k "" ++ row.getD (k + 1) "") :: row.drop (k + 2)
structure JoIx where
  row : List Str
  k : Nat
  hk : k + 1 < row.length
  rl : row.length ≤ 1000
  each : ∀ x ∈ row, x.length ≤ 1000
theorem sc28 : FnScope ["row", "place"] ["row", "place"] (scopeAt 28) := ⟨rfl, rfl, rfl, by decide +kernel, rfl, by decide +kernel, by decide +kernel⟩
theorem strs_at {row : List Str} {k : Nat} (h : k < row.length) : L2.atI (row.map PyData.str) ((k : Nat) : Int) = some (.str (row.getD k "")) := by
  refine atI_nat (j := k) ?_
  rw [List.getElem?_map, List.getElem?_eq_getElem h, List.getD_eq_getElem?_getD, List.getElem?_eq_getElem h]
  rfl
theorem ok_joined_at (F : DefAt K "joined_at" 28 f fd) (hm : mg "joined_at" = some (.ref f)) :
    Cal P w K mg base 1 "joined_at" (fun i : JoIx => [tyD K (strsD i.row), tyD K (.int (i.k : Nat))]) (fun i => tyD K (strsD (joinN i.row i.k))) := by
  refine cal_of F hm sc28 (fun kV doc pm an cdv ct us hl => ?_) (fun _ => rfl) fun i cdv A outer s H E hr => ?_
  · match us, hl with
    | [a, b], _ => rfl
  · have hlen := i.hk
    have l1 : (i.row.getD i.k "").length ≤ 1000 := by
      rw [List.getD_eq_getElem?_getD, List.getElem?_eq_getElem (by omega)]
      exact i.each _ (List.getElem_mem _)
    have l2 : (i.row.getD (i.k + 1) "").length ≤ 1000 := by
      rw [List.getD_eq_getElem?_getD, List.getElem?_eq_getElem hlen]
      exact i.each _ (List.getElem_mem _)
    refine ts_one (ts_ret (te_tupE (ds := (joinN i.row i.k).map .str) (ta_starT (te_slT (te_var 0 (T := tyD K (strsD i.row))) to_none (to_some (te_var 1)))
      (ta_cons (te_addS (te_ixT (te_var 0 (T := tyD K (strsD i.row))) (te_var 1) (strs_at (by omega))) (te_ixT (te_var 0 (T := tyD K (strsD i.row))) (te_addI (te_var 1) te_int) (strs_at (k := i.k + 1) hlen)) (by omega))
        (ta_starT (te_slT (te_var 0 (T := tyD K (strsD i.row))) (to_some (te_addI (te_var 1) te_int)) to_none) ta_nil))) ?_ ?_))
    · show (cutL (i.row.map PyData.str) none (some ((i.k : Nat) : Int))).map (tyD K) ++ tyD K (.str (i.row.getD i.k "" ++ i.row.getD (i.k + 1) "")) :: ((cutL (i.row.map PyData.str) (some ((i.k + 2 : Nat) : Int)) none).map (tyD K) ++ []) = ((joinN i.row i.k).map PyData.str).map (tyD K)
      rw [cutL_to, cutL_from, List.append_nil]
      unfold joinN
      simp [List.map_take, List.map_drop]
    · rw [List.length_map]
      unfold joinN
      simp only [List.length_append, List.length_take, List.length_cons, List.length_drop]
      have := i.rl
      omega
end
end K14
/-! KR: next_join. -/
namespace K14
open PySem PySem.Spec PyProof.Rows L2
section
variable {P : Program} {w : World} {K : PySem.W.Frag} {mg : Str → Option Value} {base : Heap} {f : Addr} {fd : FuncData}
/-- a def whose only defaults are keyword-only -/
theorem calK_of {x : Str} {params : Arguments} {body : List Stmt} {scope : Scope} {N ps : List Str} {k : Nat} {ι : Type} {Ai : ι → List Ty} {Ri : ι → Ty} {kws : List (Str × V)} (n : Nat) (F : FunD K x x params body scope [] kws f fd) (hm : mg x = some (.ref f)) (S : FnScope N ps scope) (hne : kws ≠ []) (hn : n + kws.length = ps.length)
    (h0 : ∀ (D : Addr) (doc pm : Value) (an : Option Addr) (cdv ct : Value) (us ws : List Value), us.length = n → ws.length = kws.length → KwChain D ((kws.map (·.1)).zip ws) (bindArgs (PySem.W.fnOf x x params body scope .none (.ref D) doc pm an cdv ct) ⟨us, []⟩) (ps.zip (us ++ ws)))
    (h1 : ∀ (kV doc pm : Value) (an : Option Addr) (cdv ct : Value) (us ws : List Value), us.length = n → ws.length = kws.length → bindArgs (PySem.W.fnOf x x params body scope .none kV doc pm an cdv ct) ⟨us, (kws.map (·.1)).zip ws⟩ = pure (ps.zip (us ++ ws)))
    (hA : ∀ i, (Ai i).length = ps.length)
    (hb : ∀ (i : ι) (cdv : Value) (A : Around) (outer : List Env) (s : Shared) (H : Hp) (E : XK), Room k (A.deeper (envOfC x scope s.heap.objs.size f cdv)) →
      PSs (cxOf CX0 P w K mg base N x scope f cdv A outer s H E).nox body (tS (startR N.length (Ai i)) { nx := fun _ => ∀ H, (Ri i).p H .non, rt := Ri i })) : CalK P w K mg base (k + 1) x Ai Ri (kws.map (·.2)) n (kws.map (·.1)) := by
  refine ⟨f, fd, ps, fn_T F S hA hb, hm, F.kp, F.binds0 n hne hn h0, ⟨fun s us ws X l1 l2 => ?_, fun r1 r2 => r1.append r2⟩⟩
  obtain ⟨oc, od, dV, kV, doc, pm, an, cdv, ct, osl, rfl, lk, hcd, hD, hK⟩ := F.ex
  rcases hD with ⟨_, rfl⟩ | ⟨e, _⟩
  · exact .of_eq (h1 kV doc pm an cdv ct us ws l1 (by rw [l2, List.length_map]))
  · exact absurd rfl e
theorem pi_congr {X : Cx} {tg e : Expr} {ρ : Rho} {n n' : Nat} {item item' : Nat → Ty} (h : PI X tg e (tI ρ n item)) (hn : n = n') (q : ∀ i, i < n → item i = item' i) : PI X tg e (tI ρ n' item') := by
  subst hn
  refine pi_weak h fun σ H R z => ⟨z.1, fun J H' G g w gg => z.2 J H' G g ⟨w.st, w.goes, w.stops, fun Ds i H x H' hi hD hG y => ?_⟩ gg⟩
  rw [← q i hi]
  exact w.yields Ds i H x H' hi hD hG y
theorem foldl_take {α β : Type} (f : β → α → β) (b : β) (d : α) (L : List α) (j : Nat) (hj : j < L.length) : (L.take (j + 1)).foldl f b = f ((L.take j).foldl f b) (L.getD j d) := by
  rw [List.take_succ, List.getElem?_eq_getElem hj, List.foldl_append, List.getD_eq_getElem?_getD, List.getElem?_eq_getElem hj]
  rfl
/-! next_join -/
def stepB (m : Str) (st : Nat) (b : Option (Nat × Nat)) (p : Nat × Nat) : Option (Nat × Nat) :=
  if m = "once" ∧ p.2 < st then b else match b with
    | none => some p
    | some q => if pref m p.2 q.2 = true then some p else b
def nextJ (m : Str) (rs : List Rule) (row : List Str) (st : Nat) : Option (Nat × Nat) := (pl rs row).foldl (stepB m st) none
def bestD : Option (Nat × Nat) → PyData
  | none => .none
  | some p => placeD p
structure NjIx where
  T : Tb
  row : List Str
  st : Nat
  nd : T.rs.Nodup
  len : T.rs.length ≤ 1000
  rl : row.length ≤ 1000
theorem sc27 : FnScope ["table", "row", "stage", "manner", "best", "place", "rank"] ["table", "row", "stage"] (scopeAt 27) := ⟨rfl, rfl, rfl, by decide +kernel, rfl, by decide +kernel, by decide +kernel⟩
abbrev CNum (P : Program) (w : World) (K : PySem.W.Frag) (mg : Str → Option Value) (base : Heap) : Prop := Cal P w K mg base 2 "is_number" (fun i : { i : Int // 0 ≤ i } => [tyD K (.int i.1)]) (fun _ => tyD K (.bool true))
abbrev CPlaces (P : Program) (w : World) (K : PySem.W.Frag) (mg : Str → Option Value) (base : Heap) : Prop := Cal P w K mg base 1 "places_of" (fun i : PlIx => [tyD K (tbD i.T), tyD K (strsD i.row)]) (fun i => tyD K (.tuple ((pl i.T.rs i.row).map placeD)))
abbrev CPref (P : Program) (w : World) (K : PySem.W.Frag) (mg : Str → Option Value) (base : Heap) : Prop := Cal P w K mg base 1 "is_preferred" (fun i : Str × Nat × Nat => [tyD K (.str i.1), tyD K (.int (i.2.1 : Nat)), tyD K (.int (i.2.2 : Nat))]) (fun i => tyD K (.bool (pref i.1 i.2.1 i.2.2)))
theorem ok_next_join (F : FunD K "next_join" "next_join" (argsAt 27) (bodyAt 27) (scopeAt 27) [] [("stage", .int 0)] f fd) (hm : mg "next_join" = some (.ref f)) (B : Free mg) (c11 : CNum P w K mg base) (c25 : CPlaces P w K mg base) (c26 : CPref P w K mg base) :
    CalK P w K mg base 3 "next_join" (fun i : NjIx => [tyD K (tbD i.T), tyD K (strsD i.row), tyD K (.int (i.st : Nat))]) (fun i => tyD K (bestD (nextJ i.T.m i.T.rs i.row i.st))) [.int 0] 2 ["stage"] := by
  refine calK_of (kws := [("stage", .int 0)]) 2 F hm sc27 (by decide) rfl (fun D doc pm an cdv ct us ws h1 h2 => ?_) (fun kV doc pm an cdv ct us ws h1 h2 => ?_) (fun _ => rfl) fun i cdv A outer s H E hr => ?_
  · match us, h1, ws, h2 with
    | [a, b], _, [c], _ => exact ⟨_, _, _, _, _, _, rfl, rfl, rfl⟩
  · match us, h1, ws, h2 with
    | [a, b], _, [c], _ => rfl
  · let L := pl i.T.rs i.row
    let m := i.T.m
    refine ts_cons (ts_if (k := false) (tt_not (tt_fn (i := ⟨(i.st : Int), Int.natCast_nonneg _⟩) (c := true) c11 hr rfl (ta_one (te_var 2) rfl))) (fun h => nomatch h) fun _ => ts_nil ?_)
    refine ts_cons (ts_set 3 (te_ixT (d := .str m) (te_var 0 (T := tyD K (tbD i.T))) te_int rfl) ?_ sc27.nd)
    refine ts_cons (ts_set 4 te_non ?_ sc27.nd)
    let rho := fun (b : Option (Nat × Nat)) (x y : Option Ty) => ([some (tyD K (tbD i.T)), some (tyD K (strsD i.row)), some (tyD K (.int (i.st : Nat))), some (tyD K (.str m)), some (tyD K (bestD b)), x, y] : Rho)
    let bst := fun (j : Nat) => (L.take j).foldl (stepB m i.st) none
    refine ts_cons (ts_for (n := L.length) (item := fun j => tyD K (placeD (L.getD j (0, 0)))) (vs := [5, 6]) (fun j ρ' => ∃ x y, ρ' = rho (bst j) x y) (fun j ρ' => (ρ'.set 5 (some (tyD K (.int ((L.getD j (0, 0)).1 : Nat))))).set 6 (some (tyD K (.int ((L.getD j (0, 0)).2 : Nat)))))
      PassesOwn.never rfl ?_ ⟨_, _, rfl⟩ (fun ρ' ⟨x, y, e⟩ => ?_) (fun j ρ' hj _ => tg_pairD 5 6 rfl sc27.nd (by decide) (by decide)) fun j ρ' hj ⟨x, y, e⟩ => ?_)
    · refine pi_congr (ti_tup (te_fn (i := ⟨i.T, i.row, i.nd, i.len, i.rl⟩) c25 (hr.mono (by decide)) (ta_cons (te_var 0) (ta_one (te_var 1) rfl)))) (List.length_map ..) fun j hj => ?_
      have hj' : j < L.length := by simpa using hj
      show tyD K ((L.map placeD).getD j .none) = _
      rw [getD_map placeD .none L j hj', List.getD_eq_getElem?_getD, List.getElem?_eq_getElem hj']
      rfl
    · subst e
      refine ts_one (ts_ret (T := tyD K (bestD (nextJ m i.T.rs i.row i.st))) ?_)
      have e2 : bst L.length = nextJ m i.T.rs i.row i.st := by
        show (L.take L.length).foldl _ _ = _
        rw [List.take_length]
        rfl
      rw [← e2]
      exact te_var 4
    · subst e
      have es : bst (j + 1) = stepB m i.st (bst j) (L.getD j (0, 0)) := foldl_take _ _ _ L j hj
      generalize hb : bst j = b at es ⊢
      generalize hp : L.getD j (0, 0) = p at es ⊢
      have step : ∀ x' y', bst (j + 1) = b → ∃ x y, rho b x' y' = rho (bst (j + 1)) x y := fun x' y' e => ⟨x', y', by rw [e]⟩
      refine ts_cons (ts_if (k := decide (m = "once") && decide (((p.2 : Nat) : Int) < ((i.st : Nat) : Int))) (PW.pt (tw_and (tt_eqS (te_var 3) te_str) fun _ => tw_and1 (tt_lt (te_var 6) (te_var 2)))) (fun h => ?_) fun h => ts_nil ?_)
      · rw [Bool.and_eq_true, decide_eq_true_eq, decide_eq_true_eq] at h
        refine ts_one (ts_cont (step _ _ ?_))
        rw [es]
        unfold stepB
        rw [if_pos ⟨h.1, by omega⟩]
      · have hn : ¬ (m = "once" ∧ p.2 < i.st) := fun z => by
          rw [Bool.and_eq_false_iff, decide_eq_false_iff_not, decide_eq_false_iff_not] at h
          rcases h with h | h
          · exact h z.1
          · exact h (by omega)
        have put : ∀ x' y', bst (j + 1) = some p → ∃ x y, ((rho b x' y').set 4 (some (tyD K (placeD p)))) = rho (bst (j + 1)) x y := fun x' y' e => ⟨x', y', by rw [e]; rfl⟩
        cases b with
        | none =>
          refine ts_one (ts_if (k := true || false) (PW.pt (tw_or (tt_isN (d := bestD none) (te_var 4)) fun z => by cases z)) (fun _ => ts_one (ts_set 4 (te_tup (ds := [.int (p.1 : Nat), .int (p.2 : Nat)]) (ta_cons (te_var 5) (ta_cons (te_var 6) ta_nil))) (put _ _ ?_) sc27.nd)) (fun z => nomatch z))
          rw [es]
          unfold stepB
          rw [if_neg hn]
        | some q =>
          refine ts_one (ts_if (k := false || pref m p.2 q.2) (PW.pt (tw_or (tt_isN (d := placeD q) (te_var 4)) fun _ => tw_or1 (tt_fn (i := (m, p.2, q.2)) (c := pref m p.2 q.2) c26 (hr.mono (by decide)) rfl (ta_cons (te_var 3) (ta_cons (te_var 6) (ta_one (te_ixT (te_var 4 (T := tyD K (placeD q))) te_int rfl) rfl)))))) (fun z => ?_) (fun z => ?_))
          · refine ts_one (ts_set 4 (te_tup (ds := [.int (p.1 : Nat), .int (p.2 : Nat)]) (ta_cons (te_var 5) (ta_cons (te_var 6) ta_nil))) (put _ _ ?_) sc27.nd)
            rw [es]
            unfold stepB
            rw [if_neg hn]
            have z' : pref m p.2 q.2 = true := z
            simp [z']
          · refine ts_nil (step _ _ ?_)
            rw [es]
            unfold stepB
            rw [if_neg hn]
            have z' : pref m p.2 q.2 = false := z
            simp [z']
end
end K14
/-! KS: stages_of, run_of, cut_of. -/
namespace K14
open PySem PySem.Spec PyProof.Rows L2 GenW

/-! ### the run, in plain Lean -/
theorem stepB_mem {m : Str} {st : Nat} (ps : List (Nat × Nat)) : ∀ (b : Option (Nat × Nat)) (p : Nat × Nat), ps.foldl (stepB m st) b = some p → b = some p ∨ p ∈ ps := by
  induction ps with
  | nil => intro b p h; exact .inl h
  | cons q ps ih =>
    intro b p h
    rcases ih (stepB m st b q) p h with e | e
    · unfold stepB at e
      split at e
      · exact .inl e
      · cases b with
        | none => exact .inr (by cases e; exact List.mem_cons_self)
        | some o =>
          dsimp only at e
          split at e
          · exact .inr (by cases e; exact List.mem_cons_self)
          · exact .inl e
    · exact .inr (List.mem_cons_of_mem _ e)
theorem pl_mem {rs : List Rule} {row : List Str} {p : Nat × Nat} (h : p ∈ pl rs row) : p.1 + 1 < row.length ∧ rankOf rs (pairAt row p.1) = some p.2 := by
  unfold pl took at h
  obtain ⟨i, hi, e⟩ := List.mem_map.mp h
  obtain ⟨h1, h2⟩ := List.mem_filter.mp hi
  have h1 := List.mem_range.mp h1
  obtain ⟨r, er⟩ := Option.isSome_iff_exists.mp h2
  subst e
  refine ⟨by show i + 1 < _; omega, ?_⟩
  show rankOf rs (pairAt row i) = some ((rankOf rs (pairAt row i)).getD 0)
  rw [er]
  rfl
theorem nextJ_lt {m : Str} {rs : List Rule} {row : List Str} {st : Nat} {p : Nat × Nat} (h : nextJ m rs row st = some p) : p.1 + 1 < row.length := by
  rcases stepB_mem _ _ _ h with e | e
  · cases e
  · exact (pl_mem e).1
theorem joinN_len {row : List Str} {k : Nat} (h : k + 1 < row.length) : (joinN row k).length + 1 = row.length := by
  unfold joinN
  simp only [List.length_append, List.length_take, List.length_cons, List.length_drop]
  omega
/-- the stages: rows with the joins that follow -/
def stg (m : Str) (rs : List Rule) : Nat → List Str → Nat → List (List Str × Option (Nat × Nat))
  | 0, row, st => [(row, nextJ m rs row st)]
  | f + 1, row, st => match nextJ m rs row st with
    | none => [(row, none)]
    | some p => (row, some p) :: stg m rs f (joinN row p.1) p.2
def sumLen (row : List Str) : Nat := (row.map fun x => x.length).sum
theorem str_app_len (a b : Str) : (a ++ b).length = a.length + b.length := by
  show (a.cps ++ b.cps).size = a.cps.size + b.cps.size
  exact Array.size_append ..
theorem sumLen_join {row : List Str} {k : Nat} (h : k + 1 < row.length) : sumLen (joinN row k) = sumLen row := by
  have e : row = row.take k ++ (row.getD k "" :: row.getD (k + 1) "" :: row.drop (k + 2)) := by
    have h1 : row.drop k = row.getD k "" :: row.drop (k + 1) := by
      rw [List.drop_eq_getElem_cons (by omega), List.getD_eq_getElem?_getD, List.getElem?_eq_getElem (by omega)]
      rfl
    have h2 : row.drop (k + 1) = row.getD (k + 1) "" :: row.drop (k + 2) := by
      rw [List.drop_eq_getElem_cons (by omega), List.getD_eq_getElem?_getD, List.getElem?_eq_getElem (by omega)]
      rfl
    rw [← h2, ← h1, List.take_append_drop]
  have e2 : sumLen row = sumLen (row.take k) + ((row.getD k "").length + ((row.getD (k + 1) "").length + sumLen (row.drop (k + 2)))) := by
    conv => lhs; rw [e]
    unfold sumLen
    simp
  rw [e2]
  unfold joinN sumLen
  simp only [List.map_append, List.map_cons, List.sum_append, List.sum_cons, str_app_len]
  omega
theorem len_le_sum {row : List Str} {x : Str} (h : x ∈ row) : x.length ≤ sumLen row := by
  induction row with
  | nil => cases h
  | cons y row ih =>
    unfold sumLen
    rw [List.map_cons, List.sum_cons]
    rcases List.mem_cons.mp h with e | h
    · rw [e]
      omega
    · have := ih h
      unfold sumLen at this
      omega
theorem sumLen_sigs (z : Str) : sumLen (sigs z) = z.length := by
  have key : ∀ cs : List Nat, sumLen (cs.map sgn) = cs.length := by
    intro cs
    induction cs with
    | nil => rfl
    | cons c cs ih =>
      unfold sumLen at ih ⊢
      rw [List.map_cons, List.map_cons, List.sum_cons, ih, List.length_cons]
      show 1 + _ = _
      omega
  unfold sigs
  rw [key]
  show z.cps.toList.length = z.cps.size
  simp
/-! ### a generator def under its name -/
structure CalG (P : Program) (w : World) (K : PySem.W.Frag) (mg : Str → Option Value) (base : Heap) (k : Nat) (x : Str) {ι : Type} (A : ι → List Ty) (n : ι → Nat) (it : ι → Nat → Ty) : Prop where
  ex : ∃ (f : Addr) (fd : FuncData) (ps : List Str), GFnT P w K mg base k f fd ps A n it ∧ mg x = some (.ref f) ∧ PySem.W.keepIn K (.ref f) = true ∧ Binds K fd ps []
theorem pgn_fn {X : Cx} {e : Expr} {es : List Expr} {pos p : Pos} {ρ : Rho} {x : Str} {k : Nat} {ι : Type} {A : ι → List Ty} {n : ι → Nat} {it : ι → Nat → Ty} {P : Program} {w : World} {K : PySem.W.Frag} {mg : Str → Option Value} {base : Heap} {i : ι} (C : CalG P w K mg base k x A n it) (hr : Room k X.A) (ha : PA X (e :: es) (tTA ρ (A i)))
    (hX : Of X P w K mg base := by exact ⟨rfl, rfl, rfl, rfl, rfl⟩) (hg : Gl X x := by rfl) (he : starEach (e :: es) X.env = (false, eval e X.env) :: starEach es X.env := by rfl) (hpl : (backTo pos (starEach es X.env)).any (·.1) = false := by rfl) (hdb : (x == ("__debug__" : Str)) = false := by decide) : PGn X k (.Call (.Name x p) (e :: es) [] pos) ρ (n i) (it i) := by
  obtain ⟨h1, h2, h3, h4, h5⟩ := hX
  subst h1 h2 h3 h4 h5
  obtain ⟨f, fd, ps, h1, h2, h3, h4⟩ := C.ex
  exact pgn_call h1 hr h2 h3 h4 ha i rfl hg he hpl hdb
section
variable {P : Program} {w : World} {K : PySem.W.Frag} {mg : Str → Option Value} {base : Heap} {f : Addr} {fd : FuncData}
theorem calG_of {x : Str} {params : Arguments} {body : List Stmt} {scope : Scope} {N ps : List Str} {k : Nat} {ι : Type} {Ai : ι → List Ty} {n : ι → Nat} {it : ι → Nat → Ty} (F : FunD K x x params body scope [] [] f fd) (hm : mg x = some (.ref f)) (S : GScope N ps scope) (nc : ∀ m, cellsFrom m scope.names [] = [])
    (hbd : ∀ (kV doc pm : Value) (an : Option Addr) (cdv ct : Value) (us : List Value), us.length = ps.length → bindArgs (PySem.W.fnOf x x params body scope .none kV doc pm an cdv ct) ⟨us, []⟩ = pure (ps.zip us)) (hA : ∀ i, (Ai i).length = ps.length)
    (hbody : ∀ (i : ι) (cdv : Value) (A : Around) (outer : List Env) (L : Addr) (Pa ban : List Addr) (g : Nat), Room k (A.deeper (envOfC x scope L f cdv)) → GOk ⟨P, w, K, mg, base, N, x, scope, f, cdv, A, outer, L, Pa, ban, g⟩ →
      GSts ⟨P, w, K, mg, base, N, x, scope, f, cdv, A, outer, L, Pa, ban, g⟩ (it i) body (n i) (startR N.length (Ai i)) (fun m _ => m = 0)) : CalG P w K mg base (k + 1) x Ai n it := by
  have hb := F.bindsN hbd
  refine ⟨f, fd, ps, ?_, hm, F.kp, hb⟩
  obtain ⟨oc, od, dV, kV, doc, pm, an, cdv, ct, osl, rfl, lk, hcd, hD, hK⟩ := F.ex
  exact gfnT_of lk hcd S nc hA fun i A outer L Pa ban g hr ok => hbody i cdv A outer L Pa ban g hr ok
end
end K14
/-! KT: stages_of, run_of, cut_of. -/
namespace K14
open PySem PySem.Spec PyProof.Rows L2 GenW
structure StIx where
  T : Tb
  z : Str
  nd : T.rs.Nodup
  len : T.rs.length ≤ 1000
  zl : z.length ≤ 1000
def StIx.L (i : StIx) : List (List Str × Option (Nat × Nat)) := stg i.T.m i.T.rs (sigs i.z).length (sigs i.z) 0
def stageT (K : PySem.W.Frag) (q : List Str × Option (Nat × Nat)) : Ty := tyP K (tyD K (strsD q.1)) (tyD K (bestD q.2))
def StIx.it (K : PySem.W.Frag) (i : StIx) (j : Nat) : Ty := stageT K (i.L.reverse.getD j ([], none))
theorem rev_at {α : Type} {L pre rest : List α} {a d : α} (h : L = pre ++ a :: rest) : L.reverse.getD rest.length d = a := by
  rw [h, List.reverse_append, List.reverse_cons, List.append_assoc, List.getD_eq_getElem?_getD, List.getElem?_append_right (by rw [List.length_reverse]; exact Nat.le_refl _), List.length_reverse, Nat.sub_self]
  rfl
theorem sum_bound {row : List Str} {n : Nat} (h : sumLen row ≤ n) : ∀ x ∈ row, x.length ≤ n := fun x hx => Nat.le_trans (len_le_sum hx) h
section
variable {P : Program} {w : World} {K : PySem.W.Frag} {mg : Str → Option Value} {base : Heap} {f : Addr} {fd : FuncData}
abbrev CNext (P : Program) (w : World) (K : PySem.W.Frag) (mg : Str → Option Value) (base : Heap) : Prop := CalK P w K mg base 3 "next_join" (fun i : NjIx => [tyD K (tbD i.T), tyD K (strsD i.row), tyD K (.int (i.st : Nat))]) (fun i => tyD K (bestD (nextJ i.T.m i.T.rs i.row i.st))) [.int 0] 2 ["stage"]
abbrev CJoin (P : Program) (w : World) (K : PySem.W.Frag) (mg : Str → Option Value) (base : Heap) : Prop := Cal P w K mg base 1 "joined_at" (fun i : JoIx => [tyD K (strsD i.row), tyD K (.int (i.k : Nat))]) (fun i => tyD K (strsD (joinN i.row i.k)))
theorem sc29 : GScope ["table", "text", "row", "join", "place", "rank"] ["table", "text"] (scopeAt 29) := ⟨rfl, rfl, rfl, by decide +kernel, rfl, by decide +kernel, by decide +kernel⟩
theorem ok_stages_of (F : DefAt K "stages_of" 29 f fd) (hm : mg "stages_of" = some (.ref f)) (B : Free mg) (c27 : CNext P w K mg base) (c28 : CJoin P w K mg base) :
    CalG P w K mg base 4 "stages_of" (fun i : StIx => [tyD K (tbD i.T), tyD K (.str i.z)]) (fun i => i.L.length) (fun i => i.it K) := by
  refine calG_of F hm sc29 (fun m => rfl) (fun kV doc pm an cdv ct us hl => ?_) (fun _ => rfl) fun i cdv A outer L Pa ban g hr ok => ?_
  · match us, hl with
    | [a, b], _ => rfl
  · let m := i.T.m
    let rs := i.T.rs
    let nj := fun (row : List Str) (st : Nat) (h : row.length ≤ 1000) => (⟨i.T, row, st, i.nd, i.len, h⟩ : NjIx)
    have sl : (sigs i.z).length ≤ 1000 := by
      rw [sigs_len]
      exact i.zl
    refine gs_cons (gs_plain fun s H => ts_set 2 (te_tupS rfl B.tuple (te_var 1) (Nat.le_trans i.zl (by decide))) ?_ sc29.nd)
    refine gs_cons (gs_plain fun s H => ts_set 3 (te_fnD (i := nj (sigs i.z) 0 sl) c27 (hr) (ta_cons (te_var 0) (ta_one (te_var 2) rfl)) (Ds := [tyD K (.int 0)]) (fun H => ⟨Dp.int 0, True.intro⟩) rfl) ?_ sc29.nd)
    let rho := fun (row : List Str) (b : Option (Nat × Nat)) (x y : Option Ty) => ([some (tyD K (tbD i.T)), some (tyD K (.str i.z)), some (tyD K (strsD row)), some (tyD K (bestD b)), x, y] : Rho)
    let J := fun (n : Nat) (ρ' : Rho) => ∃ fu row st pre x y, ρ' = rho row (nextJ m rs row st) x y ∧ row.length ≤ fu ∧ row.length ≤ 1000 ∧ sumLen row ≤ 1000 ∧ i.L = pre ++ stg m rs fu row st ∧ n = (stg m rs fu row st).length
    refine gs_cons (gs_while J ⟨(sigs i.z).length, sigs i.z, 0, [], _, _, rfl, Nat.le_refl _, sl, by rw [sumLen_sigs]; exact i.zl, rfl, rfl⟩ ?_)
    rintro n ρ' ⟨fu, row, st, pre, x, y, rfl, hf, hl, hs, hL, hn⟩
    cases hb : nextJ m rs row st with
    | none =>
      refine ⟨false, fun s H => tt_notN (d := bestD none) (te_var 3), ?_⟩
      have e1 : stg m rs fu row st = [(row, none)] := by
        cases fu with
        | zero =>
          show [(row, nextJ m rs row st)] = _
          rw [hb]
        | succ fu =>
          unfold stg
          rw [hb]
      rw [e1] at hn hL
      subst hn
      show GSts _ _ _ 1 _ _
      refine gs_cons (gs_yield (T := tyP K (tyD K (strsD row)) (tyD K .none)) ok (fun s H => te_pair (ta_cons (te_var 2) (ta_one te_non rfl))) ?_ (gs_nil rfl))
      have e2 := rev_at (d := ([], none)) hL
      show Ty.le _ (stageT K (i.L.reverse.getD 0 ([], none)))
      rw [show i.L.reverse.getD 0 ([], none) = (row, none) from e2]
      exact Ty.le.rfl
    | some p =>
      refine ⟨true, fun s H => tt_notN (d := bestD (some p)) (te_var 3), ?_⟩
      have hk := nextJ_lt hb
      cases fu with
      | zero =>
        have : row.length ≤ 0 := hf
        omega
      | succ fu =>
        have e1 : stg m rs (fu + 1) row st = (row, some p) :: stg m rs fu (joinN row p.1) p.2 := by
          conv => lhs; unfold stg
          rw [hb]
        rw [e1] at hn hL
        rw [List.length_cons] at hn
        subst hn
        have hjl := joinN_len hk
        have e2 := rev_at (d := ([], none)) hL
        refine gs_cons (gs_yield (T := tyP K (tyD K (strsD row)) (tyD K (placeD p))) ok (fun s H => te_pair (ta_cons (te_var 2) (ta_one (te_var 3) rfl))) ?_ ?_)
        · show Ty.le _ (stageT K (i.L.reverse.getD _ ([], none)))
          rw [e2]
          exact Ty.le.rfl
        refine gs_cons (gs_plain fun s H => ts_asg (vs := [4, 5]) (te_var 3 (T := tyD K (placeD p))) (tg_pairD 4 5 rfl sc29.nd (by decide) (by decide)) ?_)
        refine gs_cons (gs_plain fun s H => ts_set 2 (te_fn (i := (⟨row, p.1, hk, hl, sum_bound hs⟩ : JoIx)) c28 (hr.mono (by decide)) (ta_cons (te_var 2) (ta_one (te_var 4) rfl))) ?_ sc29.nd)
        refine gs_cons (gs_plain fun s H => ts_set 3 (te_fnK (i := nj (joinN row p.1) p.2 (by omega)) (Ts := [tyD K (tbD i.T), tyD K (strsD (joinN row p.1))]) (Ds := [tyD K (.int (p.2 : Nat))]) c27 hr (ta_cons (te_var 0) (ta_one (te_var 2) rfl)) rfl (tk_cons (te_var 5) tk_nil) rfl rfl) ?_ sc29.nd)
        refine gs_nil ⟨Nat.lt_succ_self _, fu, joinN row p.1, p.2, pre ++ [(row, some p)], _, _, rfl, by omega, by omega, by rw [sumLen_join hk]; exact hs, by rw [hL, List.append_assoc]; rfl, rfl⟩
/-! run_of -/
def StIx.itR (K : PySem.W.Frag) (i : StIx) (j : Nat) : Ty := tyD K (strsD (i.L.reverse.getD j ([], none)).1)
abbrev CStages (P : Program) (w : World) (K : PySem.W.Frag) (mg : Str → Option Value) (base : Heap) : Prop := CalG P w K mg base 4 "stages_of" (fun i : StIx => [tyD K (tbD i.T), tyD K (.str i.z)]) (fun i => i.L.length) (fun i => i.it K)
theorem sc30 : GScope ["table", "text", "row", "join"] ["table", "text"] (scopeAt 30) := ⟨rfl, rfl, rfl, by decide +kernel, rfl, by decide +kernel, by decide +kernel⟩
theorem ok_run_of (F : DefAt K "run_of" 30 f fd) (hm : mg "run_of" = some (.ref f)) (c29 : CStages P w K mg base) :
    CalG P w K mg base 6 "run_of" (fun i : StIx => [tyD K (tbD i.T), tyD K (.str i.z)]) (fun i => i.L.length) (fun i => i.itR K) := by
  refine calG_of F hm sc30 (fun m => rfl) (fun kV doc pm an cdv ct us hl => ?_) (fun _ => rfl) fun i cdv A outer L Pa ban g hr ok => ?_
  · match us, hl with
    | [a, b], _ => rfl
  · refine gs_cons (gs_forGen (k := 4) (it' := i.it K) (T := fun j => tyD K (strsD (i.L.reverse.getD j ([], none)).1)) (U := fun j => tyD K (bestD (i.L.reverse.getD j ([], none)).2)) (ρ0 := startR 4 [tyD K (tbD i.T), tyD K (.str i.z)]) ok hr (fun s H => pgn_fn (i := i) c29 (hr.mono (by decide)) (ta_cons (te_var 0) (ta_one (te_var 1) rfl)))
      (fun m => rfl) (fun m => Ty.le.rfl) (fun H σ h => h) rfl (gs_nil rfl) sc30.nd (i := 2) (j := 3) (by decide) rfl rfl rfl rfl)
/-! cut_of -/
theorem downT_map {α : Type} (f : α → Ty) (d : α) : ∀ L : List α, downT (fun j => f (L.reverse.getD j d)) L.length = L.map f
  | [] => rfl
  | a :: L => by
    show f ((a :: L).reverse.getD L.length d) :: downT (fun j => f ((a :: L).reverse.getD j d)) L.length = f a :: L.map f
    have e0 : (a :: L).reverse.getD L.length d = a := rev_at (pre := []) rfl
    have e1 : ∀ n, n ≤ L.length → downT (fun j => f ((a :: L).reverse.getD j d)) n = downT (fun j => f (L.reverse.getD j d)) n := by
      intro n
      induction n with
      | zero => intro _; rfl
      | succ n ih =>
        intro hn
        show f ((a :: L).reverse.getD n d) :: _ = f (L.reverse.getD n d) :: _
        rw [ih (by omega), List.reverse_cons, List.getD_eq_getElem?_getD, List.getElem?_append_left (by rw [List.length_reverse]; omega), ← List.getD_eq_getElem?_getD]
    rw [e0, e1 _ (Nat.le_refl _), downT_map f d L]
theorem stg_ne (m : Str) (rs : List Rule) (f : Nat) (row : List Str) (st : Nat) : stg m rs f row st ≠ [] := by
  cases f with
  | zero => exact fun z => by cases z
  | succ f =>
    unfold stg
    split <;> exact fun z => by cases z
theorem stg_len (m : Str) (rs : List Rule) : ∀ (f : Nat) (row : List Str) (st : Nat), (stg m rs f row st).length ≤ f + 1
  | 0, _, _ => Nat.le_refl _
  | f + 1, row, st => by
    unfold stg
    split
    · exact Nat.le_add_left 1 _
    · rename_i p _
      rw [List.length_cons]
      have := stg_len m rs f (joinN row p.1) p.2
      omega
/-- the cut -/
def cutOf (T : Tb) (z : Str) : List Str := ((stg T.m T.rs (sigs z).length (sigs z) 0).getLast (stg_ne _ _ _ _ _)).1
abbrev CRun (P : Program) (w : World) (K : PySem.W.Frag) (mg : Str → Option Value) (base : Heap) : Prop := CalG P w K mg base 6 "run_of" (fun i : StIx => [tyD K (tbD i.T), tyD K (.str i.z)]) (fun i => i.L.length) (fun i => i.itR K)
theorem sc31 : FnScope ["table", "text", "rows"] ["table", "text"] (scopeAt 31) := ⟨rfl, rfl, rfl, by decide +kernel, rfl, by decide +kernel, by decide +kernel⟩
theorem ok_cut_of (F : DefAt K "cut_of" 31 f fd) (hm : mg "cut_of" = some (.ref f)) (B : Free mg) (c30 : CRun P w K mg base) :
    Cal P w K mg base 10 "cut_of" (fun i : StIx => [tyD K (tbD i.T), tyD K (.str i.z)]) (fun i => tyD K (strsD (cutOf i.T i.z))) := by
  refine cal_of F hm sc31 (fun kV doc pm an cdv ct us hl => ?_) (fun _ => rfl) fun i cdv A outer s H E hr => ?_
  · match us, hl with
    | [a, b], _ => rfl
  · have hn : i.L.length ≤ 1000000 := by
      have h1 := stg_len i.T.m i.T.rs (sigs i.z).length (sigs i.z) 0
      have h2 := i.zl
      rw [sigs_len] at h1
      have h3 : i.z.cps.size ≤ 1000 := h2
      unfold StIx.L
      rw [sigs_len]
      omega
    have e : (tyL (downT (i.itR K) i.L.length)).le (tyD K (.list (i.L.map fun q => strsD q.1))) := fun H v h => tyTL_le H v (tyL_le (by
      have z := downT_map (fun q : List Str × Option (Nat × Nat) => tyD K (strsD q.1)) ([], none) i.L
      rw [List.map_map]
      exact z) H v h)
    refine ts_cons (ts_set 2 (te_le (te_listGen rfl rfl (pgn_fn (i := i) c30 (hr.mono (by decide)) (ta_cons (te_var 0) (ta_one (te_var 1) rfl))) hr hn B.list PyProof.Rows.boot_list) e) ?_ sc31.nd)
    refine ts_one (ts_ret (te_ixL (d := strsD (cutOf i.T i.z)) (te_var 2) (te_negI te_int) ?_))
    have e2 : i.L.map (fun q => strsD q.1) = (i.L.dropLast.map fun q => strsD q.1) ++ [strsD (cutOf i.T i.z)] := by
      conv => lhs; rw [← List.dropLast_concat_getLast (show i.L ≠ [] from stg_ne _ _ _ _ _)]
      rw [List.map_append]
      rfl
    rw [e2]
    exact atI_last _ _
end
end K14
/-! KU: the rest of kinds. -/
namespace K14
open PySem PySem.Spec PyProof.Rows L2
/-! ### data that may be compared -/
structure ShD (n : Nat) (d : PyData) : Prop where
  lay : d.canLay0 = true
  dep : d.depth ≤ n
theorem ShD.shaped {n : Nat} {d : PyData} (h : ShD n d) (hn : n ≤ 64 := by decide) : SeqAt.shaped d = true := by
  unfold SeqAt.shaped
  rw [Bool.and_eq_true]
  exact ⟨h.lay, decide_eq_true (Nat.le_trans h.dep hn)⟩
theorem ShD.str {z : Str} (h : PySem.PyData.strOk z = true) : ShD 0 (.str z) := ⟨h, Nat.le_refl _⟩
theorem ShD.all {n : Nat} : ∀ {ds : List PyData}, (∀ d ∈ ds, ShD n d) → PyData.canLayAll0 ds = true ∧ PyData.depthAll ds ≤ n
  | [], _ => ⟨rfl, Nat.zero_le _⟩
  | d :: ds, h => by
    obtain ⟨h1, h2⟩ := ShD.all (ds := ds) fun x hx => h x (List.mem_cons_of_mem _ hx)
    have h3 := h d List.mem_cons_self
    refine ⟨?_, ?_⟩
    · show (d.canLay0 && PyData.canLayAll0 ds) = true
      rw [h3.lay, h1]
      rfl
    · show max d.depth (PyData.depthAll ds) ≤ n
      exact Nat.max_le.mpr ⟨h3.dep, h2⟩
theorem ShD.tup {n : Nat} {ds : List PyData} (h : ∀ d ∈ ds, ShD n d) : ShD (n + 1) (.tuple ds) := ⟨(ShD.all h).1, Nat.succ_le_succ (ShD.all h).2⟩
theorem ShD.lst {n : Nat} {ds : List PyData} (h : ∀ d ∈ ds, ShD n d) : ShD (n + 1) (.list ds) := ⟨(ShD.all h).1, Nat.succ_le_succ (ShD.all h).2⟩
theorem abc_small : ∀ c ∈ abc.cps.toList, c < 128 := by decide +kernel
theorem Low.ok {z : Str} (h : Low z) : PySem.PyData.strOk z = true := by
  unfold PySem.PyData.strOk
  rw [Array.all_eq_true']
  intro c hc
  exact decide_eq_true (Nat.lt_trans (abc_small c (h c (Array.mem_toList_iff.mpr hc))) (by decide))
theorem shD_strs {xs : List Str} (h : ∀ x ∈ xs, Low x) : ShD 1 (strsD xs) := ShD.tup fun d hd => by
  obtain ⟨x, hx, rfl⟩ := List.mem_map.mp hd
  exact .str (h x hx).ok
theorem shD_pair {p : Rule} (h1 : Low p.1) (h2 : Low p.2) : ShD 1 (pairD p) := ShD.tup fun d hd => by
  rcases List.mem_cons.mp hd with e | hd
  · exact e ▸ .str h1.ok
  · exact List.mem_singleton.mp hd ▸ .str h2.ok
theorem shD_rules {rs : List Rule} (h : ∀ p ∈ rs, Low p.1 ∧ Low p.2) : ShD 2 (rulesD rs) := ShD.tup fun d hd => by
  obtain ⟨p, hp, rfl⟩ := List.mem_map.mp hd
  exact shD_pair (h p hp).1 (h p hp).2
section
variable {P : Program} {w : World} {K : PySem.W.Frag} {mg : Str → Option Value} {base : Heap} {f : Addr} {fd : FuncData}
abbrev CRow (P : Program) (w : World) (K : PySem.W.Frag) (mg : Str → Option Value) (base : Heap) : Prop := Cal P w K mg base 3 "is_row" (fun i : { xs : List Str // RowOk xs } => [tyD K (strsD i.1)]) (fun _ => tyD K (.bool true))
abbrev CLetter (P : Program) (w : World) (K : PySem.W.Frag) (mg : Str → Option Value) (base : Heap) : Prop := Cal P w K mg base 2 "is_letter" (fun i : { c : Nat // c ∈ abc.cps.toList } => [tyD K (.str (sgn i.1))]) (fun _ => tyD K (.bool true))
/-! is_rule -/
structure PairOk (p : Rule) : Prop where
  l : PieceOk p.1
  r : PieceOk p.2
theorem PairOk.row {p : Rule} (h : PairOk p) : RowOk [p.1, p.2] := ⟨fun x hx => by
  rcases List.mem_cons.mp hx with e | hx
  · exact e ▸ h.l
  · exact List.mem_singleton.mp hx ▸ h.r, by show 2 ≤ 1000; decide⟩
theorem sc16 : FnScope ["thing"] ["thing"] (scopeAt 16) := ⟨rfl, rfl, rfl, by decide +kernel, rfl, by decide +kernel, by decide +kernel⟩
theorem ok_is_rule (F : DefAt K "is_rule" 16 f fd) (hm : mg "is_rule" = some (.ref f)) (B : Free mg) (c15 : CRow P w K mg base) :
    Cal P w K mg base 4 "is_rule" (fun i : { p : Rule // PairOk p } => [tyD K (pairD i.1)]) (fun _ => tyD K (.bool true)) := by
  refine cal_of F hm sc16 (fun kV doc pm an cdv ct us hl => ?_) (fun _ => rfl) fun i cdv A outer s H E hr => ?_
  · match us, hl with
    | [a], _ => rfl
  · exact ts_one (ts_ret (te_and (c := true) (d := true) (te_fn (i := ⟨[i.1.1, i.1.2], i.2.row⟩) c15 hr (ta_one (te_var 0) rfl)) fun _ => te_one (te_b (te_eqI (te_len (d := pairD i.1) (n := 2) B.len (te_var 0)) te_int) rfl)))
/-! is_manner -/
theorem manners_ok : ∀ x ∈ manners, PySem.PyData.strOk x = true := by decide +kernel
theorem mem_strs {z : Str} {xs : List Str} (h : z ∈ xs) : inD (xs.map .str) (.str z) = true := by
  unfold inD
  rw [List.any_eq_true]
  exact ⟨.str z, List.mem_map.mpr ⟨z, h, rfl⟩, by simp [PyData.eqv]⟩
theorem sc17 : FnScope ["thing"] ["thing"] (scopeAt 17) := ⟨rfl, rfl, rfl, by decide +kernel, rfl, by decide +kernel, by decide +kernel⟩
theorem ok_is_manner (F : DefAt K "is_manner" 17 f fd) (hm : mg "is_manner" = some (.ref f)) (B : Free mg) (C : Cons K mg) :
    Cal P w K mg base 1 "is_manner" (fun i : { z : Str // z ∈ manners } => [tyD K (.str i.1)]) (fun _ => tyD K (.bool true)) := by
  refine cal_of F hm sc17 (fun kV doc pm an cdv ct us hl => ?_) (fun _ => rfl) fun i cdv A outer s H E hr => ?_
  · match us, hl with
    | [a], _ => rfl
  · exact ts_one (ts_ret (te_and (c := true) (d := true) (te_isi B.isinstance (te_var 0 (T := tyD K (.str i.1))) B.str PyProof.Rows.boot_str rfl) fun _ => te_one (te_b (te_inT (units65 hr) (te_var 0) (te_MANNERS C) (ShD.str (manners_ok _ i.2)).shaped (ShD.shaped (n := 1) (ShD.tup fun d hd => by obtain ⟨x, hx, rfl⟩ := List.mem_map.mp hd; exact .str (manners_ok x hx)))) (mem_strs i.2))))
/-! are_letters -/
theorem let_at {cs : List Nat} {j : Nat} (h : j < cs.length) : ((cs.map sgn).map PyData.str).getD j .none = .str (sgn cs[j]) := by
  rw [getD_map PyData.str .none _ j (by rw [List.length_map]; exact h), List.getElem_map]
theorem sc18 : FnScope ["thing", "one", "other"] ["thing"] (scopeAt 18) := ⟨rfl, rfl, rfl, by decide +kernel, rfl, by decide +kernel, by decide +kernel⟩
theorem ok_are_letters (F : DefAt K "are_letters" 18 f fd) (hm : mg "are_letters" = some (.ref f)) (B : Free mg) (c13 : CLetter P w K mg base) :
    Cal P w K mg base 3 "are_letters" (fun i : { cs : List Nat // LetOk cs } => [tyD K (letD i.1)]) (fun _ => tyD K (.bool true)) := by
  refine cal_of F hm sc18 (fun kV doc pm an cdv ct us hl => ?_) (fun _ => rfl) fun i cdv A outer s H E hr => ?_
  · match us, hl with
    | [a], _ => rfl
  · obtain ⟨cs, L⟩ := i
    have hl : ((cs.map sgn).map PyData.str).length = cs.length := by rw [List.length_map, List.length_map]
    have hne : cs.length ≠ 0 := fun z => L.ne (List.eq_nil_of_length_eq_zero z)
    refine ts_cons (ts_if (k := false) (PW.pt (tw_or (c := false) (d := false) (tt_not (c := true) (tt_val (te_isi B.isinstance (te_var 0 (T := tyD K (letD cs))) B.tuple PyProof.Rows.boot_tuple rfl))) fun _ => tw_or (c := false) (d := false) (tt_is (tt_eqI (te_len (d := letD cs) B.len (te_var 0) (by exact congrArg some hl) (Nat.le_trans L.len (by decide))) te_int) ?_) fun _ =>
      tw_or1 (tt_not (c := true) (tt_val (te_allT [("one", 1)] B.all rfl sc18.nd (ti_tup (te_var 0 (T := tyD K (letD cs)))) (by rw [hl]; exact Nat.le_trans L.len (by decide)) (blkOk_by (N := ["thing", "one", "other"]) (sc := scopeAt 18) (by decide +kernel)) (lcok (nxt := fun j => _) (fun j hj s H C' cl fp => tg_name 1 sc18.nd (by decide)) (fun j hj s H C' cl fp => ?_))))))) (fun h => nomatch h) fun _ => ts_nil ?_)
    · exact decide_eq_false (by omega)
    · rw [hl] at hj
      refine te_fn (i := ⟨cs[j], L.low _ (List.getElem_mem hj)⟩) c13 (hr.mono (by decide)) (ta_one (te_d (te_var 1) (let_at hj)) rfl)
    · have hmin : min ((cs.map sgn).map PyData.str).length (cutL ((cs.map sgn).map PyData.str) (some ((1 : Nat) : Int)) none).length = cs.length - 1 := by
        rw [cutL_from, List.length_drop, hl]
        omega
      refine ts_one (ts_ret (te_allT (n := cs.length - 1) (item := fun j => tyD K (.tuple [((cs.map sgn).map PyData.str).getD j .none, (cutL ((cs.map sgn).map PyData.str) (some ((1 : Nat) : Int)) none).getD j .none])) [("one", 1), ("other", 2)] B.all rfl sc18.nd ?_ ?_ (blkOk_by (N := ["thing", "one", "other"]) (sc := scopeAt 18) (by decide +kernel))
        (lcok (nxt := fun j => _) (fun j hj s H C' cl fp => tg_pairD 1 2 rfl sc18.nd (by decide) (by decide)) (fun j hj s H C' cl fp => ?_))))
      · rw [← hmin]
        exact ti_zipT (noRs_row (cs.map sgn)) B.zip (te_var 0 (T := tyD K (letD cs))) (te_slT (te_var 0 (T := tyD K (letD cs))) (to_some (te_int (i := 1))) to_none)
      · have := L.len
        omega
      · have h1 : j < cs.length := by omega
        have h2 : j + 1 < cs.length := by omega
        have e1 := let_at h1
        have e2 : (cutL ((cs.map sgn).map PyData.str) (some ((1 : Nat) : Int)) none).getD j .none = .str (sgn cs[j + 1]) := by
          rw [cutL_from, List.getD_eq_getElem?_getD, List.getElem?_drop, Nat.add_comm 1 j, ← List.getD_eq_getElem?_getD, let_at h2]
        refine te_b (te_ltS (te_d (te_var 1) e1) (te_d (te_var 2) e2)) (decide_eq_true ?_)
        have hlt : cs[j] < cs[j + 1] := List.pairwise_iff_getElem.mp L.asc j (j + 1) h1 h2 (Nat.lt_succ_self j)
        show ([cs[j]] : List Nat) < [cs[j + 1]]
        exact List.Lex.rel hlt
end
end K14
/-! KW: lists and dicts of one's own that change. -/
namespace K14
open PySem PySem.Spec PyProof.Rows L2

/-! ### values that hold no list -/
mutual
def NoL : PyData → Bool
  | .list _ => false
  | .dict _ => false
  | .tuple ds => NoLs ds
  | _ => true
def NoLs : List PyData → Bool
  | [] => true
  | d :: ds => NoL d && NoLs ds
end
mutual
theorem Dp.hid {K : PySem.W.Frag} {As : List Addr} {H : Hp} (own : Own As H) : ∀ (d : PyData) (v : V), NoL d = true → Dp K H v d → Dp K (hide As H) v d
  | .none, _, _, h => by
    cases h
    exact .non
  | .bool b, _, _, h => by
    cases h
    exact .bl b
  | .int i, _, _, h => by
    cases h
    exact .int i
  | .str x, _, _, h => by
    cases h
    exact .str x
  | .list _, _, n, _ => by cases n
  | .tuple ds, _, n, h => by
    cases h with
    | tup hs ha =>
      obtain ⟨u, hu, hs⟩ := hs
      exact .tup ⟨u, hu, by rw [hide_out (own.not hs (fun _ z => tupHO_lst (Option.some.inj z)) fun _ z => tupHO_dT (Option.some.inj z))]; exact hs⟩ (DpAll.hid own ds _ n ha)
  | .dict _, _, n, _ => by cases n
theorem DpAll.hid {K : PySem.W.Frag} {As : List Addr} {H : Hp} (own : Own As H) : ∀ (ds : List PyData) (vs : List V), NoLs ds = true → DpAll K H vs ds → DpAll K (hide As H) vs ds
  | [], _, _, h => by
    cases h
    exact .nil
  | d :: ds, _, n, h => by
    have n' : NoL d = true ∧ NoLs ds = true := Bool.and_eq_true_iff.mp n
    cases h with
    | cons h1 h2 => exact .cons (Dp.hid own d _ n'.1 h1) (DpAll.hid own ds _ n'.2 h2)
end
theorem noLs_all : ∀ {ds : List PyData}, (∀ d ∈ ds, NoL d = true) → NoLs ds = true
  | [], _ => rfl
  | d :: ds, h => Bool.and_eq_true_iff.mpr ⟨h d List.mem_cons_self, noLs_all fun x hx => h x (List.mem_cons_of_mem _ hx)⟩
theorem noL_strs (xs : List Str) : NoL (strsD xs) = true := noLs_all fun d hd => by
  obtain ⟨x, _, rfl⟩ := List.mem_map.mp hd
  rfl
theorem noL_rules (rs : List Rule) : NoL (rulesD rs) = true := noLs_all fun d hd => by
  obtain ⟨x, _, rfl⟩ := List.mem_map.mp hd
  rfl
/-- what is seen with the own objects stays so when they are hidden -/
def Thaw (T : Ty) : Prop := ∀ As H v, Own As H → T.p H v → T.p (hide As H) v
theorem thaw_D {K : PySem.W.Frag} {d : PyData} (h : NoL d = true := by rfl) : Thaw (tyD K d) := fun As H v own p => Dp.hid own d v h p
theorem thaw_V {x : V} : Thaw (tyV x) := fun _ _ _ _ h => h

/-! ### own objects by types -/
structure OTy where
  p : Hp → HO → Prop
  st : ∀ {H H' : Hp} {o : HO}, Gr H H' → p H o → p H' o
  own : ∀ {H : Hp} {o : HO}, p H o → (∃ xs, o = .lst xs) ∨ ∃ kvs, o = .dT kvs
def oL (K : PySem.W.Frag) (ds : List PyData) : OTy := ⟨fun H o => ∃ xs, o = .lst xs ∧ DpAll K H xs ds, fun e ⟨xs, h1, h2⟩ => ⟨xs, h1, Gr.dpAll e _ _ h2⟩, fun ⟨xs, h1, _⟩ => .inl ⟨xs, h1⟩⟩
def oKv (kvs : List (List Key × V)) : OTy := ⟨fun _ o => o = .dT kvs, fun _ h => h, fun h => .inr ⟨kvs, h⟩⟩
def Held (H G : Hp) : List Addr → List OTy → Prop
  | [], [] => True
  | a :: as, t :: ts => (∃ o, H a = some o ∧ t.p G o) ∧ Held H G as ts
  | _, _ => False
theorem Held.mem {H G : Hp} : ∀ {as : List Addr} {ts : List OTy}, Held H G as ts → ∀ a ∈ as, ∃ o t, H a = some o ∧ OTy.p t G o
  | [], [], _, _, m => by cases m
  | b :: as, t :: ts, h, a, m => by
    rcases List.mem_cons.mp m with e | m
    · subst e
      obtain ⟨o, h1, h2⟩ := h.1
      exact ⟨o, t, h1, h2⟩
    · exact Held.mem h.2 a m
theorem Held.own {H G : Hp} {as : List Addr} {ts : List OTy} (h : Held H G as ts) : Own as H := fun a m => by
  obtain ⟨o, t, h1, h2⟩ := h.mem a m
  rcases t.own h2 with ⟨xs, e⟩ | ⟨xs, e⟩
  · exact .inl ⟨xs, e ▸ h1⟩
  · exact .inr ⟨xs, e ▸ h1⟩
theorem Held.keep {H G H' G' : Hp} (e : Gr G G') : ∀ {as : List Addr} {ts : List OTy}, Held H G as ts → (∀ a ∈ as, H' a = H a) → Held H' G' as ts
  | [], [], _, _ => True.intro
  | a :: as, t :: ts, h, k => by
    obtain ⟨o, h1, h2⟩ := h.1
    exact ⟨⟨o, (k a List.mem_cons_self).trans h1, t.st e h2⟩, Held.keep e h.2 fun b hb => k b (List.mem_cons_of_mem _ hb)⟩
theorem Held.get {H G : Hp} : ∀ {as : List Addr} {ts : List OTy} {j : Nat} {a : Addr} {t : OTy}, Held H G as ts → as[j]? = some a → ts[j]? = some t → ∃ o, H a = some o ∧ t.p G o
  | [], [], j, a, t, _, e, _ => by simp at e
  | b :: as, u :: ts, 0, a, t, h, e1, e2 => by
    have q1 : b = a := by simpa using e1
    have q2 : u = t := by simpa using e2
    subst q1 q2
    exact h.1
  | b :: as, u :: ts, j + 1, a, t, h, e1, e2 => Held.get (j := j) h.2 (by simpa using e1) (by simpa using e2)
theorem Held.set {H G : Hp} {o : HO} {t : OTy} (ho : t.p G o) : ∀ {as : List Addr} {ts : List OTy} {j : Nat} {a : Addr}, as.Nodup → Held H G as ts → as[j]? = some a → Held (upd H a o) G as (ts.set j t)
  | [], [], j, a, _, _, e => by simp at e
  | b :: as, u :: ts, 0, a, nd, h, e1 => by
    have q1 : b = a := by simpa using e1
    subst q1
    refine ⟨⟨o, upd_same, ho⟩, Held.keep (Gr.refl G) h.2 fun c hc => upd_ne fun z => ?_⟩
    exact (List.nodup_cons.mp nd).1 (z ▸ hc)
  | b :: as, u :: ts, j + 1, a, nd, h, e1 => by
    obtain ⟨q, h1, h2⟩ := h.1
    have ea : as[j]? = some a := by simpa using e1
    have hne : b ≠ a := fun z => (List.nodup_cons.mp nd).1 (z ▸ List.mem_of_getElem? ea)
    exact ⟨⟨q, by rw [upd_ne hne]; exact h1, h2⟩, Held.set ho (List.nodup_cons.mp nd).2 h.2 ea⟩
/-- these objects are known, and are no code objects -/
def Plain (As : List Addr) (H : Hp) : Prop := ∀ a ∈ As, ∃ o, H a = some o ∧ Still o ∧ ∀ φ, o ≠ .ext φ
theorem Own.plain {As : List Addr} {H : Hp} (own : Own As H) : Plain As H := fun a m => by
  rcases own a m with ⟨xs, h⟩ | ⟨xs, h⟩
  · exact ⟨_, h, True.intro, fun φ z => by cases z⟩
  · exact ⟨_, h, True.intro, fun φ z => by cases z⟩
theorem Plain.ins {x C dx : Addr} {fs : List (Str × V)} {H : Hp} (h : H x = some (.ins C dx fs)) : Plain [x] H := fun a m => by
  rw [List.mem_singleton] at m
  subst m
  exact ⟨_, h, True.intro, fun φ z => by cases z⟩
theorem Gr.hide {As : List Addr} {H H' : Hp} (e : Gr H H') (pl : Plain As H) : Gr (K14.hide As H) (K14.hide As H') := by
  refine ⟨fun b o q s => ?_, fun f cl hf => ?_, fun ht p hp => ?_⟩
  · by_cases h : b ∈ As
    · rw [hide_in h] at q
      cases q
    · rw [hide_out h] at q ⊢
      exact e.keep b o q s
  · have hf' : FeedOk f cl H := (Gr.same hide_same).feed f cl hf
    obtain ⟨ns0, nx0, rs0, ct0, b1, b2, _⟩ := hf
    have n1 : f ∉ As := fun m => by rw [hide_in m] at b1; cases b1
    have n2 : cl ∉ As := fun m => by rw [hide_in m] at b2; cases b2
    obtain ⟨ns, nx, rs, ct, a1, a2, a3⟩ := e.feed f cl hf'
    exact ⟨ns, nx, rs, ct, by rw [hide_out n1]; exact a1, by rw [hide_out n2]; exact a2, a3⟩
  · obtain ⟨ps0, b1, _⟩ := ht p hp
    have n1 : p.1 ∉ As := fun m => by rw [hide_in m] at b1; cases b1
    obtain ⟨ps, a1, a2, a3⟩ := e.tab ((Gr.same hide_same).tab ht) p hp
    refine ⟨ps, by rw [hide_out n1]; exact a1, a2, fun pos cv hc => ?_⟩
    obtain ⟨c, c1, c2⟩ := a3 pos cv hc
    refine ⟨c, c1, ?_⟩
    have n2 : c ∉ As := fun m => by
      obtain ⟨o, h1, h2, h3⟩ := pl c m
      have h4 := e.keep c o h1 h2
      rw [c2] at h4
      exact h3 _ (Option.some.inj h4).symm
    rw [hide_out n2]
    exact c2
/-- lists and such dicts stay -/
theorem Own.kept {As : List Addr} {H H' : Hp} (own : Own As H) (e : Gr H H') : ∀ a ∈ As, H' a = H a := fun a m => by
  rcases own a m with ⟨xs, q⟩ | ⟨xs, q⟩
  · rw [q]
    exact e.keep a _ q True.intro
  · rw [q]
    exact e.keep a _ q True.intro
theorem Own.same {As : List Addr} {H H' : Hp} (own : Own As H) (k : ∀ a ∈ As, H' a = H a) : Own As H' := fun a m => by
  rw [k a m]
  exact own a m

/-! ### expressions beside own objects -/
structure OSt (As : List Addr) (ts : List OTy) (ρ : Rho) (σ : L2.St) (H : Hp) : Prop where
  nd : As.Nodup
  held : Held H (hide As H) As ts
  env : EnvT (hide As H) σ ρ
theorem OSt.beh {As : List Addr} {ts : List OTy} {ρ : Rho} {σ : L2.St} {H H' : Hp} (h : OSt As ts ρ σ H) (b : Beh As H H') : OSt As ts ρ σ H' := ⟨h.nd, h.held.keep b.gr b.own, h.env.mono b.gr⟩
theorem Beh.trans {As : List Addr} {H H1 H2 : Hp} (a : Beh As H H1) (b : Beh As H1 H2) : Beh As H H2 := ⟨a.gr.trans b.gr, fun d m => (b.own d m).trans (a.own d m)⟩
theorem Beh.refl {As : List Addr} {H : Hp} : Beh As H H := ⟨Gr.refl _, fun _ _ => rfl⟩
theorem Beh.of {As : List Addr} {H H' : Hp} (own : Own As H) (e : Gr H H') : Beh As H H' := ⟨e.hide own.plain, own.kept e⟩
def oT (As : List Addr) (ts : List OTy) (ρ : Rho) (T : Ty) : TE := fun σ H Q => OSt As ts ρ σ H ∧ ∀ v H', Beh As H H' → T.p (hide As H') v → Q v H'
def oTB (As : List Addr) (ts : List OTy) (ρ : Rho) (b : Bool) : TT := fun σ H Q => OSt As ts ρ σ H ∧ ∀ H', Beh As H H' → Q b H'
section
variable {X : Cx} {As : List Addr} {ts : List OTy} {ρ ρ' : Rho} {T : Ty} {e : Expr} {b : Bool}
theorem oe_frame (h : PE X e (tT ρ T)) : PE X e (oT As ts ρ T) := pe_weak (pe_frame h) fun σ H Q q => ⟨As, q.1.held.own, q.1.env, q.2⟩
theorem ot_frame (h : PT X e (tTB ρ b)) : PT X e (oTB As ts ρ b) := pt_weak (pt_frame h) fun σ H Q q => ⟨As, q.1.held.own, q.1.env, q.2⟩
/-- the own objects may be looked at, as things that stay -/
structure Open (As : List Addr) (ts : List OTy) (ρ ρ' : Rho) : Prop where
  op : ∀ {σ : L2.St} {H : Hp}, Held H (hide As H) As ts → EnvT H σ ρ → EnvT H σ ρ'
theorem Open.rfl' : Open As ts ρ ρ := ⟨fun _ h => h⟩
theorem EnvT.swap {H : Hp} {σ : L2.St} {x : V} (i : Nat) (h : EnvT H σ ρ) (e : ρ[i]? = some (some (tyV x))) (hx : T.p H x) : EnvT H σ (ρ.set i (some T)) := by
  obtain ⟨y, h1, h2⟩ := h.get e
  have h2 : y = x := h2
  subst h2
  have es : σ.set i (some y) = σ := by
    obtain ⟨hl, h3⟩ := List.getElem?_eq_some_iff.mp h1
    rw [← h3]
    exact List.set_getElem_self hl
  have g := EnvT.set hx i h
  rw [es] at g
  exact g
theorem Open.l {K : PySem.W.Frag} {ds : List PyData} {a : Addr} (i j : Nat) (O : Open As ts ρ ρ') (hj : As[j]? = some a := by rfl) (ht : ts[j]? = some (oL K ds) := by rfl) (hi : ρ'[i]? = some (some (tyV (.ref a))) := by rfl) : Open As ts ρ (ρ'.set i (some (tyTL K ds))) := ⟨fun {σ H} h hE => by
  obtain ⟨o, h1, xs, h2, h3⟩ := h.get hj ht
  exact (O.op h hE).swap i hi ⟨a, xs, rfl, h2 ▸ h1, Gr.dpAll (.same hide_same) _ _ h3⟩⟩
/-- a dict with tuple keys -/
def tyKv (kvs : List (List Key × V)) : Ty := ⟨fun H v => ∃ a, v = .ref a ∧ H a = some (.dT kvs), fun e ⟨a, h1, h2⟩ => ⟨a, h1, e.keep a _ h2 True.intro⟩⟩
theorem Open.d {kvs : List (List Key × V)} {a : Addr} (i j : Nat) (O : Open As ts ρ ρ') (hj : As[j]? = some a := by rfl) (ht : ts[j]? = some (oKv kvs) := by rfl) (hi : ρ'[i]? = some (some (tyV (.ref a))) := by rfl) : Open As ts ρ (ρ'.set i (some (tyKv kvs))) := ⟨fun {σ H} h hE => by
  obtain ⟨o, h1, h2⟩ := h.get hj ht
  have h2 : o = .dT kvs := h2
  exact (O.op h hE).swap i hi ⟨a, rfl, h2 ▸ h1⟩⟩
theorem OSt.open {σ : L2.St} {H : Hp} (O : Open As ts ρ ρ') (h : OSt As ts ρ σ H) : EnvT H σ ρ' := O.op h.held (h.env.mono (.same hide_same))
theorem oe_thaw (O : Open As ts ρ ρ') (h : PE X e (tT ρ' T)) (hT : Thaw T) : PE X e (oT As ts ρ T) := pe_weak h fun σ H Q q => ⟨q.1.open O, fun v H' g p => q.2 v H' (.of q.1.held.own g) (hT As H' v (q.1.held.own.same (q.1.held.own.kept g)) p)⟩
theorem ot_thaw (O : Open As ts ρ ρ') (h : PT X e (tTB ρ' b)) : PT X e (oTB As ts ρ b) := pt_weak h fun σ H Q q => ⟨q.1.open O, fun H' g => q.2 H' (.of q.1.held.own g)⟩

/-! ### statements beside own objects -/
structure OEnds where
  nx : List OTy → Rho → Prop
  rt : Ty
  fx : Rho → Prop := fun _ => False
  bk : List OTy → Rho → Prop := fun _ _ => False
  ct : List OTy → Rho → Prop := fun _ _ => False
structure OMeets (As : List Addr) (D : OEnds) (D0 : Ends) (H : Hp) : Prop where
  nx : ∀ ts ρ' σ' H', D.nx ts ρ' → OSt As ts ρ' σ' H' → Gr (hide As H) (hide As H') → D0.nx σ' H'
  fx : ∀ ρ' σ' H', D.fx ρ' → EnvT H' σ' ρ' → Gr (hide As H) (hide As H') → D0.nx σ' H'
  rt : ∀ v H', Gr (hide As H) (hide As H') → D.rt.p H' v → D0.rt v H'
  bk : ∀ ts ρ' σ' H', D.bk ts ρ' → OSt As ts ρ' σ' H' → Gr (hide As H) (hide As H') → D0.bk σ' H'
  ct : ∀ ts ρ' σ' H', D.ct ts ρ' → OSt As ts ρ' σ' H' → Gr (hide As H) (hide As H') → D0.ct σ' H'
theorem OMeets.mono {D : OEnds} {D0 : Ends} {H H1 : Hp} (m : OMeets As D D0 H) (e : Gr (hide As H) (hide As H1)) : OMeets As D D0 H1 :=
  ⟨fun t r s h a b c => m.nx t r s h a b (e.trans c), fun r s h a b c => m.fx r s h a b (e.trans c), fun v h c a => m.rt v h (e.trans c) a, fun t r s h a b c => m.bk t r s h a b (e.trans c), fun t r s h a b c => m.ct t r s h a b (e.trans c)⟩
def oS (As : List Addr) (ts : List OTy) (ρ : Rho) (D : OEnds) : TS := fun D0 σ H => OSt As ts ρ σ H ∧ OMeets As D D0 H
variable {D : OEnds} {DT : TEnds} {st : Stmt} {rest body orelse : List Stmt} {pos : Pos}
theorem os_nil (h : D.nx ts ρ) : PSs X [] (oS As ts ρ D) := pss_weak pss_nil fun D0 σ H q => q.2.nx ts ρ σ H h q.1 (Gr.refl _)
theorem os_cons (h : PS X st (oS As ts ρ { D with nx := fun ts' ρ' => PSs X rest (oS As ts' ρ' D), fx := fun _ => False })) : PSs X (st :: rest) (oS As ts ρ D) :=
  pss_weak (pss_cons h (pss_some (P := fun z : List OTy × Rho => PSs X rest (oS As z.1 z.2 D)) (t := fun z => oS As z.1 z.2 D) fun _ p => p)) fun D0 σ H q =>
    ⟨q.1, ⟨fun t r s h a b c => ⟨(t, r), a, b, q.2.mono c⟩, fun _ _ _ a => a.elim, q.2.rt, q.2.bk, q.2.ct⟩⟩
theorem os_one (h : PS X st (oS As ts ρ D)) : PSs X [st] (oS As ts ρ D) := pss_one h
/-- the own objects become things that stay -/
theorem os_drop {sts : List Stmt} (O : Open As ts ρ ρ') (h : PSs X sts (tS ρ' { nx := D.fx, rt := D.rt })) : PSs X sts (oS As ts ρ D) := pss_weak h fun D0 σ H q =>
  ⟨q.1.open O, ⟨fun r s h a b c => q.2.fx r s h a b (c.hide q.1.held.own.plain), fun v h c a => q.2.rt v h (c.hide q.1.held.own.plain) a, fun _ _ _ a => a.elim, fun _ _ _ a => a.elim⟩⟩
theorem os_set (i : Nat) {x : Str} {p : Pos} (he : PE X e (oT As ts ρ T)) (h : D.nx ts (ρ.set i (some T))) (hN : X.N.Nodup) (hi : X.N[i]? = some x := by rfl) (hx : Loc X.env.scope x := by first | exact Or.inl rfl | exact Or.inr rfl)
    (hs : swapsWith e (some (.Name x p)) pos.line X.env = pure false := by rfl) (hf : X.fn x = true ∨ X.env.scope.names.lookup x = some .local := by first | exact .inl rfl | exact .inr rfl | assumption) : PS X (.Assign [.Name x p] e pos) (oS As ts ρ D) :=
  ps_weak (ps_set hN hi hx he hs hf) fun D0 σ H q => ⟨q.1, fun v H1 b hv => q.2.nx ts _ _ H1 h ⟨q.1.nd, q.1.held.keep b.gr b.own, (q.1.env.mono b.gr).set hv i⟩ b.gr⟩
theorem os_if {c : Expr} {k : Bool} (hc : PT X c (oTB As ts ρ k)) (h1 : k = true → PSs X body (oS As ts ρ D)) (h2 : k = false → PSs X orelse (oS As ts ρ D)) : PS X (.If c body orelse pos) (oS As ts ρ D) := by
  cases k with
  | true => exact ps_weak (ps_if hc (h1 rfl) pss_never) fun D0 σ H q => ⟨q.1, fun H1 b => iteT ⟨q.1.beh b, q.2.mono b.gr⟩⟩
  | false => exact ps_weak (ps_if hc pss_never (h2 rfl)) fun D0 σ H q => ⟨q.1, fun H1 b => iteF ⟨q.1.beh b, q.2.mono b.gr⟩⟩
theorem os_ret (O : Open As ts ρ ρ') (he : PE X e (tT ρ' T)) (l : T.le D.rt := by exact Ty.le.rfl) : PS X (.Return (some e) pos) (oS As ts ρ D) :=
  ps_weak (ps_ret he) fun D0 σ H q => ⟨q.1.open O, fun v H1 e1 hv => q.2.rt v H1 (e1.hide q.1.held.own.plain) (l H1 v hv)⟩
/-- a statement that touches no own object -/
theorem os_frame {sts : List Stmt} (h : PSs X sts (tS ρ { nx := D.nx ts, rt := D.rt, bk := D.bk ts, ct := D.ct ts })) : PSs X sts (oS As ts ρ D) := ⟨fun pins s σ H D0 I ⟨q, m⟩ => by
  have own := q.held.own
  have fin : ∀ {σ' : L2.St} {H1 : Hp} {s' : Shared}, Inv X (pinsAt As s.heap ++ pins) σ' H1 s' → Gr (hide As H) H1 → ∃ H', Inv X pins σ' H' s' ∧ hide As H' = H1 ∧ Beh As H H' := fun {σ' H1 s'} J g => by
    obtain ⟨n, J'⟩ := inv_shown I own J g
    exact ⟨_, J', hide_show n, beh_of n g⟩
  refine thn (h.run _ s σ (hide As H) { nx := fun σ' H1 => Gr (hide As H) H1 ∧ ∃ ρ', D.nx ts ρ' ∧ EnvT H1 σ' ρ', rt := fun v H1 => Gr (hide As H) H1 ∧ D.rt.p H1 v, bk := fun σ' H1 => Gr (hide As H) H1 ∧ ∃ ρ', D.bk ts ρ' ∧ EnvT H1 σ' ρ', ct := fun σ' H1 => Gr (hide As H) H1 ∧ ∃ ρ', D.ct ts ρ' ∧ EnvT H1 σ' ρ' } (inv_hide I own)
    ⟨q.env, ⟨fun r s h a b c => ⟨c, r, a, b⟩, fun v h c a => ⟨c, a⟩, fun r s h a b c => ⟨c, r, a, b⟩, fun r s h a b c => ⟨c, r, a, b⟩⟩⟩) fun f s' z => ?_
  cases f with
  | next =>
    obtain ⟨σ', H1, J, g, r, a, b⟩ := z
    obtain ⟨H', J', e, bh⟩ := fin J g
    subst e
    exact ⟨σ', H', J', m.nx ts r σ' H' a ⟨q.nd, q.held.keep bh.gr bh.own, b⟩ bh.gr⟩
  | brk =>
    obtain ⟨σ', H1, J, g, r, a, b⟩ := z
    obtain ⟨H', J', e, bh⟩ := fin J g
    subst e
    exact ⟨σ', H', J', m.bk ts r σ' H' a ⟨q.nd, q.held.keep bh.gr bh.own, b⟩ bh.gr⟩
  | cont =>
    obtain ⟨σ', H1, J, g, r, a, b⟩ := z
    obtain ⟨H', J', e, bh⟩ := fin J g
    subst e
    exact ⟨σ', H', J', m.ct ts r σ' H' a ⟨q.nd, q.held.keep bh.gr bh.own, b⟩ bh.gr⟩
  | ret u =>
    obtain ⟨v, σ', H1, J, rv, g, p⟩ := z
    obtain ⟨H', J', e, bh⟩ := fin J g
    subst e
    exact ⟨v, σ', H', J', rv, m.rt v H' bh.gr (D.rt.st (.same hide_same) p)⟩⟩
/-! for -/
def fI (As : List Addr) (ρ : Rho) (n : Nat) (item : Nat → Ty) : TI := fun σ H R => Own As H ∧ EnvT (hide As H) σ ρ ∧ ∀ J H' G, Beh As H H' → WalkT J n item G → G (hide As H') → R J H'
theorem pi_frame {tg : Expr} {n : Nat} {item : Nat → Ty} (h : PI X tg e (tI ρ n item)) : PI X tg e (fI As ρ n item) := ⟨fun pins s σ H R I ⟨own, hE, k⟩ => thn (h.run _ s σ (hide As H) (fun J H1 => Gr (hide As H) H1 ∧ ∃ G, WalkT J n item G ∧ G H1) (inv_hide I own) ⟨hE, fun J H1 G g w p => ⟨g, G, w, p⟩⟩) fun v s1 h1 => thn h1 fun u s2 ⟨it, fp, tn, J, H1, e, J1, T, t0, hf, g, G, w, p⟩ => by
  obtain ⟨n1, J'⟩ := inv_shown I own J1 g
  refine ⟨it, fp, tn, J, _, e, J', T, t0, fun b hb => ?_, k J _ G (beh_of n1 g) w (by rw [hide_show n1]; exact p)⟩
  obtain ⟨f0, f1, f2, f3, f4, f5⟩ := hf b hb
  have nb : b ∉ As := fun m => by
    obtain ⟨o, ho, _⟩ := own_obj I own m
    exact f5 (b, o) (List.mem_append_right _ (List.mem_append_left _ (mem_pinsAt m ho))) rfl
  refine ⟨by rw [show_out nb]; exact f0, f1, f2, f3, f4, fun q hq => f5 q ?_⟩
  rcases List.mem_append.mp hq with z | z
  · exact List.mem_append_left _ z
  · exact List.mem_append_right _ (List.mem_append_right _ z)⟩
theorem os_for {tg : Expr} {n : Nat} {item : Nat → Ty} {vs : List Nat} (J : Nat → List OTy → Rho → Prop) (nxt : Nat → Rho → Rho) (hp : PassesOwn (model X.prog X.w) X.A X.env X.xe) (hc : X.calm = true) (hi : PI X tg e (tI ρ n item)) (h0 : J 0 ts ρ) (hd : ∀ ts' ρ', J n ts' ρ' → D.nx ts' ρ')
    (hg : ∀ i ts' ρ', i < n → J i ts' ρ' → PG X tg (gT vs ρ' (item i) (nxt i ρ')))
    (hb : ∀ i ts' ρ', i < n → J i ts' ρ' → PSs X body (oS As ts' (nxt i ρ') { D with nx := J (i + 1), fx := fun _ => False, ct := J (i + 1), bk := D.nx }))
    (hs : ∀ x, foldedSetIterable e X.env x = pure x := by intro _; rfl) : PS X (.For tg e body [] pos) (oS As ts ρ D) := by
  have g1 : PG X tg (fun v σ H Q => ∃ q : Nat × List OTy × Rho, (q.1 < n ∧ J q.1 q.2.1 q.2.2) ∧ fG vs q.2.2 (item q.1) (nxt q.1 q.2.2) v σ H Q) := ⟨fun pins s σ H v u Q I r ⟨q, h1, h2⟩ => (pg_frame (hg q.1 q.2.1 q.2.2 h1.1 h1.2)).run pins s σ H v u Q I r h2⟩
  have b1 : PSs X body (fun D0 σ H => ∃ q : Nat × List OTy × Rho, (q.1 < n ∧ J q.1 q.2.1 q.2.2) ∧ oS As q.2.1 (nxt q.1 q.2.2) { D with nx := J (q.1 + 1), fx := fun _ => False, ct := J (q.1 + 1), bk := D.nx } D0 σ H) := pss_some fun q h => hb q.1 q.2.1 q.2.2 h.1 h.2
  refine ps_weak (ps_for hp hc (pi_frame (As := As) hi) g1 b1 hs) fun D0 σ H q => ⟨q.1.held.own, q.1.env, fun It H1 G bh w g => ?_⟩
  refine ⟨fun i m σ' H' => m = n - i ∧ i ≤ n ∧ G (hide As H') ∧ Gr (hide As H1) (hide As H') ∧ ∃ ts' ρ', J i ts' ρ' ∧ OSt As ts' ρ' σ' H', ⟨n, by simp, Nat.zero_le _, g, Gr.refl _, ts, ρ, h0, q.1.beh bh⟩, ?_⟩
  rintro i m σ' H' ⟨rfl, hi', gH, eH, ts', ρ', hJ, hE⟩
  have gH' : G H' := w.st _ _ (.same hide_same) gH
  by_cases hlt : i < n
  · refine .inr ⟨w.goes i H' hlt gH', fun σ2 H2 => G (hide As H2) ∧ Gr (hide As H1) (hide As H2) ∧ ∃ ts2 ρ2, J (i + 1) ts2 ρ2 ∧ OSt As ts2 ρ2 σ2 H2, fun σ2 H2 p => ⟨n - (i + 1), by omega, rfl, hlt, p⟩, fun x H2 y => ?_⟩
    obtain ⟨e20, hx⟩ := w.yields As i H' x H2 hlt (fun b hb => by obtain ⟨o, z⟩ := own_some hE.held.own hb; rw [z]; exact fun c => by cases c) gH y
    have b2 : Beh As H' H2 := ⟨.same (hide_mono e20), hE.held.own.kept (.same e20)⟩
    have hE2 := hE.beh b2
    refine ⟨(i, ts', ρ'), ⟨hlt, hJ⟩, As, hE2.held.own, hE2.env, hx, fun σ3 H3 b3 hE3 _ => ⟨(i, ts', ρ'), ⟨hlt, hJ⟩, ⟨hE.nd, hE2.held.keep b3.gr b3.own, hE3⟩, ?_⟩⟩
    have e13 : Gr (hide As H1) (hide As H3) := (eH.trans b2.gr).trans b3.gr
    have e3 : Gr (hide As H') (hide As H3) := b2.gr.trans b3.gr
    exact ⟨fun t r s h a b c => ⟨w.st _ _ (e3.trans c) gH, e13.trans c, t, r, a, b⟩, fun _ _ _ a => a.elim, fun v h c a => q.2.rt v h ((bh.gr.trans e13).trans c) a, fun t r s h a b c => q.2.nx t r s h a b ((bh.gr.trans e13).trans c), fun t r s h a b c => ⟨w.st _ _ (e3.trans c) gH, e13.trans c, t, r, a, b⟩⟩
  · have e : i = n := by omega
    subst e
    exact .inl ⟨w.stops H' gH', q.2.nx ts' ρ' σ' H' (hd ts' ρ' hJ) hE (bh.gr.trans eH)⟩
/-! an own object comes -/
def nT (ρ : Rho) (t : OTy) : TE := fun σ H Q => EnvT H σ ρ ∧ ∀ A H', Gr H (hide [A] H') → (∃ o, H' A = some o ∧ t.p (hide [A] H') o) → Q (.ref A) H'
def ofD (D : TEnds) : OEnds := { nx := fun _ ρ' => D.nx ρ', fx := D.nx, rt := D.rt, bk := fun _ => D.bk, ct := fun _ => D.ct }
theorem os_new (i : Nat) {x : Str} {p : Pos} {t : OTy} (he : PE X e (nT ρ t)) (h : ∀ A, PSs X rest (oS [A] [t] (ρ.set i (some (tyV (.ref A)))) (ofD DT))) (hN : X.N.Nodup) (hi : X.N[i]? = some x := by rfl) (hx : Loc X.env.scope x := by first | exact Or.inl rfl | exact Or.inr rfl)
    (hs : swapsWith e (some (.Name x p)) pos.line X.env = pure false := by rfl) (hf : X.fn x = true ∨ X.env.scope.names.lookup x = some .local := by first | exact .inl rfl | exact .inr rfl | assumption) : PSs X (.Assign [.Name x p] e pos :: rest) (tS ρ DT) :=
  pss_weak (pss_cons (ps_set hN hi hx he hs hf) (pss_some (P := fun _ => True) (t := fun A => oS [A] [t] (ρ.set i (some (tyV (.ref A)))) (ofD DT)) fun A _ => h A)) fun D0 σ H q =>
    ⟨q.1, fun A H1 g ho => ⟨A, True.intro, ⟨by simp, ⟨ho, True.intro⟩, (q.1.mono g).set (T := tyV (.ref A)) rfl i⟩, ⟨fun t r s h a b c => q.2.nx r s h a (b.env.mono (.same hide_same)) ((g.trans c).trans (.same hide_same)), fun r s h a b c => q.2.nx r s h a b ((g.trans c).trans (.same hide_same)), fun v h c a => q.2.rt v h ((g.trans c).trans (.same hide_same)) a,
      fun t r s h a b c => q.2.bk r s h a (b.env.mono (.same hide_same)) ((g.trans c).trans (.same hide_same)), fun t r s h a b c => q.2.ct r s h a (b.env.mono (.same hide_same)) ((g.trans c).trans (.same hide_same))⟩⟩⟩
theorem hide_new1 {H : Hp} {A : Addr} {o : HO} (h : H A = none) : hide [A] (upd H A o) = H := by
  rw [hide_upd (List.mem_singleton.mpr rfl)]
  funext b
  by_cases hb : b ∈ [A]
  · rw [hide_in hb, List.mem_singleton.mp hb, h]
  · rw [hide_out hb]
theorem ne_lst : PE X (.List [] pos) (nT ρ (oL X.K [])) := pe_weak (pe_lst ta_nil) fun σ H Q q =>
  ⟨q.1, fun vs H1 e1 hv => by
    match vs, hv with
    | [], _ => exact ⟨Nat.zero_le _, fun p hp => q.2 p _ (by rw [hide_new1 hp]; exact e1) ⟨_, upd_same, [], rfl, .nil⟩⟩⟩
theorem ne_dict : PE X (.Dict [] [] pos) (nT ρ (oKv [])) := pe_weak pe_dnewT fun σ H Q q =>
  fun p hp => q.2 p _ (by rw [hide_new1 hp]; exact Gr.refl _) ⟨_, upd_same, rfl⟩
theorem upd_held {σ : L2.St} {H : Hp} {a : Addr} {o : HO} {t : OTy} {j : Nat} (h : OSt As ts ρ σ H) (ha : As[j]? = some a) (ho : t.p (hide As H) o) : OSt As (ts.set j t) ρ σ (upd H a o) ∧ hide As (upd H a o) = hide As H := by
  have m : a ∈ As := List.mem_of_getElem? ha
  have e : hide As (upd H a o) = hide As H := hide_upd m
  refine ⟨⟨h.nd, ?_, ?_⟩, e⟩
  · rw [e]
    exact Held.set ho h.nd h.held ha
  · rw [e]
    exact h.env
/-- x.append(e) -/
theorem os_app (i j : Nat) {a : Addr} {ds : List PyData} {d : PyData} {x : Str} {p1 p2 p3 : Pos} (he : PE X e (oT As ts ρ (tyD X.K d))) (h : D.nx (ts.set j (oL X.K (ds ++ [d]))) ρ) (hl : ds.length < 1000000) (hj : As[j]? = some a := by rfl) (ht : ts[j]? = some (oL X.K ds) := by rfl) (hi : ρ[i]? = some (some (tyV (.ref a))) := by rfl)
    (hN : X.N[i]? = some x := by rfl) (hv : Vis X.env.scope x := by first | exact Or.inl rfl | exact Or.inr (Or.inl rfl) | exact Or.inr (Or.inr rfl)) (hd : (x == ("__debug__" : Str)) = false := by decide) (hcd : (x == ("__classdict__" : Str)) = false := by decide)
    (hbase : attributeBase (.Name x p1) "append" X.env (eval (.Name x p1) X.env) = eval (.Name x p1) X.env := by rfl)
    (hfew : ((backTo p3 (starEach [e] X.env)).all (fun x => !x.1) && (backToKw p3 (keywordEach [] X.env)).all (fun x => x.1.isSome) && decide ([e].length + ([] : List Keyword).length + (if ([] : List Keyword).isEmpty then 0 else 1) < 30)) = true := by rfl)
    (hline : (p2.endLine == p3.line) = true := by rfl) (hs : starEach [e] X.env = [(false, eval e X.env)] := by rfl) (hsw : swapsWith (.Call (.Attribute (.Name x p1) "append" p2) [e] [] p3) none pos.line X.env = pure false := by rfl) : PS X (.Expr (.Call (.Attribute (.Name x p1) "append" p2) [e] [] p3) pos) (oS As ts ρ D) :=
  ps_weak (ps_expr (pe_bm PySem.F.plainAttrs_list PySem.F.slot_list_append PySem.F.type_list_append mt_append (pe_var hN hv hd hcd) (pa_cons he pa_nil (by rw [hs]; rfl)) hbase hfew hline (by rw [hs]; rfl) (by rfl)) hsw) fun D0 σ H q => by
    obtain ⟨o, h1, xs, h2, h3⟩ := q.1.held.get hj ht
    subst h2
    obtain ⟨y, g1, g2⟩ := q.1.env.get hi
    have g2 : y = .ref a := g2
    subst g2
    refine ⟨_, g1, .inl ⟨rfl, xs, .of h1⟩, q.1, fun v H1 b hvv => ?_⟩
    have s1 := q.1.beh b
    have hA : H1 a = some (.lst xs) := (b.own a (List.mem_of_getElem? hj)).trans h1
    have hx1 := Gr.dpAll b.gr _ _ h3
    have hpp : (oL X.K (ds ++ [d])).p (hide As H1) (.lst (xs ++ [v])) := ⟨_, rfl, DpAll.app hx1 (.cons hvv .nil)⟩
    obtain ⟨z1, z2⟩ := upd_held s1 hj hpp
    exact ⟨a, xs, v, rfl, rfl, hA, by rw [DpAll.length h3, sizeLine_eq]; omega, q.2.nx _ ρ σ _ h z1 (by rw [z2]; exact b.gr)⟩
/-- x.extend(e), e a new list -/
theorem os_ext (i j : Nat) {a : Addr} {ds ds' : List PyData} {x : Str} {p1 p2 p3 : Pos} (he : PE X e (oT As ts ρ (tyTL X.K ds'))) (h : D.nx (ts.set j (oL X.K (ds ++ ds'))) ρ) (hl : ds.length + ds'.length < 1000000) (hj : As[j]? = some a := by rfl) (ht : ts[j]? = some (oL X.K ds) := by rfl) (hi : ρ[i]? = some (some (tyV (.ref a))) := by rfl)
    (hN : X.N[i]? = some x := by rfl) (hv : Vis X.env.scope x := by first | exact Or.inl rfl | exact Or.inr (Or.inl rfl) | exact Or.inr (Or.inr rfl)) (hd : (x == ("__debug__" : Str)) = false := by decide) (hcd : (x == ("__classdict__" : Str)) = false := by decide)
    (hbase : attributeBase (.Name x p1) "extend" X.env (eval (.Name x p1) X.env) = eval (.Name x p1) X.env := by rfl)
    (hfew : ((backTo p3 (starEach [e] X.env)).all (fun x => !x.1) && (backToKw p3 (keywordEach [] X.env)).all (fun x => x.1.isSome) && decide ([e].length + ([] : List Keyword).length + (if ([] : List Keyword).isEmpty then 0 else 1) < 30)) = true := by rfl)
    (hline : (p2.endLine == p3.line) = true := by rfl) (hs : starEach [e] X.env = [(false, eval e X.env)] := by rfl) (hsw : swapsWith (.Call (.Attribute (.Name x p1) "extend" p2) [e] [] p3) none pos.line X.env = pure false := by rfl) : PS X (.Expr (.Call (.Attribute (.Name x p1) "extend" p2) [e] [] p3) pos) (oS As ts ρ D) :=
  ps_weak (ps_expr (pe_bm PySem.F.plainAttrs_list PySem.F.slot_list_extend PySem.F.type_list_extend mt_extend (pe_var hN hv hd hcd) (pa_cons he pa_nil (by rw [hs]; rfl)) hbase hfew hline (by rw [hs]; rfl) (by rfl)) hsw) fun D0 σ H q => by
    obtain ⟨o, h1, xs, h2, h3⟩ := q.1.held.get hj ht
    subst h2
    obtain ⟨y, g1, g2⟩ := q.1.env.get hi
    have g2 : y = .ref a := g2
    subst g2
    refine ⟨_, g1, .inl ⟨rfl, xs, .of h1⟩, q.1, fun v H1 b hvv => ?_⟩
    obtain ⟨c, zs, ev, hc, hz⟩ := hvv
    subst ev
    have s1 := q.1.beh b
    have hA : H1 a = some (.lst xs) := (b.own a (List.mem_of_getElem? hj)).trans h1
    have hx1 := Gr.dpAll b.gr _ _ h3
    have hpp : (oL X.K (ds ++ ds')).p (hide As H1) (.lst (xs ++ zs)) := ⟨_, rfl, DpAll.app hx1 hz⟩
    obtain ⟨z1, z2⟩ := upd_held s1 hj hpp
    exact ⟨a, c, xs, zs, rfl, rfl, hA, hide_same c _ hc, by rw [DpAll.length h3, DpAll.length hz, sizeLine_eq]; omega, q.2.nx _ ρ σ _ h z1 (by rw [z2]; exact b.gr)⟩
/-- d[pair] = e -/
theorem os_put (i j : Nat) {a : Addr} {kvs : List (List Key × V)} {r : Rule} {w : V} {x : Str} {value ke : Expr} {p1 p2 : Pos} (hu : X.A.units + 1 < cLine) (hw : PE X value (oT As ts ρ (tyV w))) (hk : PE X ke (oT As ts ρ (tyD X.K (pairD r)))) (h : D.nx (ts.set j (oKv (putK kvs (keyOf r) w))) ρ) (hl : kvs.length < 1000000) (hj : As[j]? = some a := by rfl) (ht : ts[j]? = some (oKv kvs) := by rfl) (hi : ρ[i]? = some (some (tyV (.ref a))) := by rfl)
    (hN : X.N[i]? = some x := by rfl) (hv : Vis X.env.scope x := by first | exact Or.inl rfl | exact Or.inr (Or.inl rfl) | exact Or.inr (Or.inr rfl)) (hd : (x == ("__debug__" : Str)) = false := by decide) (hcd : (x == ("__classdict__" : Str)) = false := by decide)
    (hs : swapsWith value (some (.Subscript (.Name x p1) ke p2)) pos.line X.env = pure false := by rfl) : PS X (.Assign [.Subscript (.Name x p1) ke p2] value pos) (oS As ts ρ D) :=
  ps_weak (ps_dput hu (pe_var hN hv hd hcd) hk hw hs) fun D0 σ H q => by
    refine ⟨q.1, fun v H1 b hvv => ?_⟩
    have hvv : v = w := hvv
    subst hvv
    have s1 := q.1.beh b
    obtain ⟨y, g1, g2⟩ := s1.env.get hi
    have g2 : y = .ref a := g2
    subst g2
    refine ⟨_, g1, s1, fun v2 H2 b2 h2 => ?_⟩
    have s2 := s1.beh b2
    obtain ⟨o, h1, e2⟩ := s2.held.get hj ht
    have e2 : o = .dT kvs := e2
    subst e2
    obtain ⟨c, ev, hc⟩ := pair_key h2
    subst ev
    have hpp : (oKv (putK kvs (keyOf r) v)).p (hide As H2) (.dT (putK kvs (keyOf r) v)) := rfl
    obtain ⟨z1, z2⟩ := upd_held s2 hj hpp
    exact ⟨a, _, rfl, DPut.t h1 (hide_same c _ hc) (by rw [sizeLine_eq]; omega), q.2.nx _ ρ σ _ h z1 (by rw [z2]; exact b.gr.trans b2.gr)⟩
/-- pair in d -/
theorem tt_inKv {a c : Expr} {r : Rule} {kvs : List (List Key × V)} (hu : X.A.units + 1 < cLine) (ha : PE X a (tT ρ (tyD X.K (pairD r)))) (hc : PE X c (tT ρ (tyKv kvs))) (hm : behindInMarks .In c = false := by rfl) : PT X (.Compare a [.In] [c] pos) (tTB ρ (valV kvs (keyOf r)).isSome) :=
  pt_weak (pt_cmp (pc_din hu ha hc) hm) fun σ H Q q => ⟨q.1, fun y H1 e1 hy => ⟨q.1.mono e1, fun x H2 e2 ⟨d, ex, hd⟩ => by
    obtain ⟨c, ey, hc⟩ := pair_key (Gr.dp e2 _ _ hy)
    subst ey
    exact ⟨d, _, ex, DGet.t hd hc, _, rfl, q.2 H2 (e1.trans e2)⟩⟩⟩
end
end K14
/-! KV: is_text_of, is_rule_of, rules_fault, table_fault, is_table. -/
namespace K14
open PySem PySem.Spec PyProof.Rows L2
theorem RuleOf.pair {cs : List Nat} {p : Rule} (L : LetOk cs) (h : RuleOf cs p) : PairOk p := ⟨⟨h.l.text L, h.nl⟩, ⟨h.r.text L, h.nr⟩⟩
theorem LetOk.lows {cs : List Nat} (L : LetOk cs) : ∀ x ∈ cs.map sgn, Low x := fun x hx => by
  obtain ⟨c, hc, rfl⟩ := List.mem_map.mp hx
  exact (sgn_text (L.low c hc)).low
theorem inD_strs {z : Str} {xs : List Str} : inD (xs.map .str) (.str z) = decide (z ∈ xs) := by
  by_cases h : z ∈ xs
  · rw [decide_eq_true h]
    exact mem_strs h
  · rw [decide_eq_false h]
    unfold inD
    rw [List.any_eq_false]
    intro d hd
    obtain ⟨x, hx, rfl⟩ := List.mem_map.mp hd
    have : x ≠ z := fun e => h (e ▸ hx)
    simp [PyData.eqv, this]
section
variable {P : Program} {w : World} {K : PySem.W.Frag} {mg : Str → Option Value} {base : Heap} {f : Addr} {fd : FuncData}
structure TxIx where
  cs : List Nat
  z : Str
  L : LetOk cs
  W : WordOf cs z
abbrev CTextOf (P : Program) (w : World) (K : PySem.W.Frag) (mg : Str → Option Value) (base : Heap) : Prop := Cal P w K mg base 2 "is_text_of" (fun i : TxIx => [tyD K (.str i.z), tyD K (letD i.cs)]) (fun _ => tyD K (.bool true))
theorem sc19 : FnScope ["thing", "letters", "sign"] ["thing", "letters"] (scopeAt 19) := ⟨rfl, rfl, rfl, by decide +kernel, rfl, by decide +kernel, by decide +kernel⟩
theorem ok_is_text_of (F : DefAt K "is_text_of" 19 f fd) (hm : mg "is_text_of" = some (.ref f)) (B : Free mg) (c12 : CText P w K mg base) : CTextOf P w K mg base := by
  refine cal_of F hm sc19 (fun kV doc pm an cdv ct us hl => ?_) (fun _ => rfl) fun i cdv A outer s H E hr => ?_
  · match us, hl with
    | [a, b], _ => rfl
  · have T := i.W.text i.L
    refine ts_one (ts_ret (te_and (c := true) (d := true) (te_fn (i := ⟨i.z, T⟩) c12 (hr.mono (by decide)) (ta_one (te_var 0) rfl)) fun _ => te_one ?_))
    refine te_allT [("sign", 2)] B.all rfl sc19.nd (ti_str (te_var 0 (T := tyD K (.str i.z)))) (Nat.le_trans T.size (by decide)) (blkOk_by (N := ["thing", "letters", "sign"]) (sc := scopeAt 19) (by decide +kernel)) (lcok (nxt := fun j => _) (fun j hj s H C' cl fp => tg_name 2 sc19.nd (by decide)) (fun j hj s H C' cl fp => ?_))
    have hc : i.z.cps.getD j 0 ∈ i.cs := i.W.of _ (cps_mem hj)
    exact te_b (te_inT (units65 hr) (te_var 2) (te_le (te_var 1) tyD_n) (ShD.str (sgn_text (i.L.low _ hc)).low.ok).shaped (shD_strs i.L.lows).shaped) (by
      rw [inD_strs]
      exact decide_eq_true (List.mem_map.mpr ⟨_, hc, rfl⟩))
structure RlIx where
  cs : List Nat
  p : Rule
  L : LetOk cs
  R : RuleOf cs p
abbrev CRuleOf (P : Program) (w : World) (K : PySem.W.Frag) (mg : Str → Option Value) (base : Heap) : Prop := Cal P w K mg base 5 "is_rule_of" (fun i : RlIx => [tyD K (pairD i.p), tyD K (letD i.cs)]) (fun _ => tyD K (.bool true))
theorem sc20 : FnScope ["thing", "letters", "one"] ["thing", "letters"] (scopeAt 20) := ⟨rfl, rfl, rfl, by decide +kernel, rfl, by decide +kernel, by decide +kernel⟩
theorem ok_is_rule_of (F : DefAt K "is_rule_of" 20 f fd) (hm : mg "is_rule_of" = some (.ref f)) (B : Free mg) (c16 : Cal P w K mg base 4 "is_rule" (fun i : { p : Rule // PairOk p } => [tyD K (pairD i.1)]) (fun _ => tyD K (.bool true))) (c19 : CTextOf P w K mg base) : CRuleOf P w K mg base := by
  refine cal_of F hm sc20 (fun kV doc pm an cdv ct us hl => ?_) (fun _ => rfl) fun i cdv A outer s H E hr => ?_
  · match us, hl with
    | [a, b], _ => rfl
  · refine ts_one (ts_ret (te_and (c := true) (d := true) (te_fn (i := ⟨i.p, i.R.pair i.L⟩) c16 hr (ta_one (te_var 0) rfl)) fun _ => te_one ?_))
    refine te_allT [("one", 2)] B.all rfl sc20.nd (ti_tup (te_var 0 (T := tyD K (pairD i.p)))) (by decide : 2 ≤ 1000000) (blkOk_by (N := ["thing", "letters", "one"]) (sc := scopeAt 20) (by decide +kernel)) (lcok (nxt := fun j => _) (fun j hj s H C' cl fp => tg_name 2 sc20.nd (by decide)) (fun j hj s H C' cl fp => ?_))
    have hj : j < 2 := hj
    have : j = 0 ∨ j = 1 := by omega
    rcases this with rfl | rfl
    · exact te_fn (i := ⟨i.cs, i.p.1, i.L, i.R.l⟩) c19 (hr.mono (by decide)) (ta_cons (te_var 2) (ta_one (te_var 1) rfl))
    · exact te_fn (i := ⟨i.cs, i.p.2, i.L, i.R.r⟩) c19 (hr.mono (by decide)) (ta_cons (te_var 2) (ta_one (te_var 1) rfl))
/-! rules_fault -/
structure RsIx where
  cs : List Nat
  rs : List Rule
  L : LetOk cs
  R : ∀ p ∈ rs, RuleOf cs p
  nd : rs.Nodup
  len : rs.length ≤ 1000
def tkL : List Rule → List (List Key × V)
  | [] => []
  | q :: rs => (keyOf q, .bl true) :: tkL rs
theorem tkL_len : ∀ rs : List Rule, (tkL rs).length = rs.length
  | [] => rfl
  | _ :: rs => congrArg (· + 1) (tkL_len rs)
theorem tkL_val : ∀ {rs : List Rule} {p : Rule}, p ∉ rs → valV (tkL rs) (keyOf p) = none
  | [], p, _ => rfl
  | q :: rs, p, h => by
    unfold tkL
    rw [valV_neg (fun z => h (by rw [← keyOf_inj z]; exact List.mem_cons_self)), tkL_val fun z => h (List.mem_cons_of_mem _ z)]
theorem tkL_app : ∀ (rs : List Rule) (p : Rule), tkL (rs ++ [p]) = tkL rs ++ [(keyOf p, .bl true)]
  | [], p => rfl
  | q :: rs, p => by
    show _ :: tkL (rs ++ [p]) = _
    rw [tkL_app rs p]
    rfl
theorem tkL_put {rs : List Rule} {p : Rule} (h : p ∉ rs) : putK (tkL rs) (keyOf p) (.bl true) = tkL (rs ++ [p]) := by
  unfold putK
  rw [valV_any, tkL_val h, tkL_app]
  rfl
theorem hu_of' {k : Nat} {A : Around} (hr : Room k A) : A.units + 1 < cLine := by
  have := hr.un
  omega
abbrev CRules (P : Program) (w : World) (K : PySem.W.Frag) (mg : Str → Option Value) (base : Heap) : Prop := Cal P w K mg base 6 "rules_fault" (fun i : RsIx => [tyD K (rulesD i.rs), tyD K (letD i.cs)]) (fun _ => tyD K .none)
abbrev rf25 : List Str := ["rules", "letters", "k", "rule", "known"]
theorem sc21 : FnScope rf25 ["rules", "letters"] (scopeAt 21) := ⟨rfl, rfl, rfl, by decide +kernel, rfl, by decide +kernel, by decide +kernel⟩
theorem ok_rules_fault (F : DefAt K "rules_fault" 21 f fd) (hm : mg "rules_fault" = some (.ref f)) (B : Free mg) (c20 : CRuleOf P w K mg base) : CRules P w K mg base := by
  refine cal_of F hm sc21 (fun kV doc pm an cdv ct us hl => ?_) (fun _ => rfl) fun i cdv A outer s H E hr => ?_
  · match us, hl with
    | [a, b], _ => rfl
  · have hlr : (i.rs.map pairD).length = i.rs.length := List.length_map ..
    let rho := fun (x y z : Option Ty) => ([some (tyD K (rulesD i.rs)), some (tyD K (letD i.cs)), x, y, z] : Rho)
    have rl : ∀ j, j < (i.rs.map pairD).length → ∃ h : j < i.rs.length, (i.rs.map pairD).getD j .none = pairD i.rs[j] := fun j hj => ⟨by rw [hlr] at hj; exact hj, by rw [getD_map pairD .none i.rs j (by rw [hlr] at hj; exact hj)]⟩
    refine ts_cons (ts_for (n := (i.rs.map pairD).length) (item := fun j => tyD K (.tuple [.int (j : Nat), (i.rs.map pairD).getD j .none])) (vs := [2, 3]) (fun j ρ' => ∃ x y, ρ' = rho x y none) (fun j ρ' => (ρ'.set 2 (some (tyD K (.int (j : Nat))))).set 3 (some (tyD K ((i.rs.map pairD).getD j .none))))
      PassesOwn.never rfl (ti_enumT B.enumerate (te_var 0 (T := tyD K (rulesD i.rs)))) ⟨none, none, rfl⟩ (fun ρ' ⟨x, y, e⟩ => ?_) (fun j ρ' hj _ => tg_pairD 2 3 rfl sc21.nd (by decide) (by decide)) fun j ρ' hj ⟨x, y, e⟩ => ?_)
    · subst e
      refine os_new 4 ne_dict (fun a => ?_) sc21.nd
      refine os_cons (os_for (n := (i.rs.map pairD).length) (item := fun j => tyD K (.tuple [.int (j : Nat), (i.rs.map pairD).getD j .none])) (vs := [2, 3]) (fun j ts' ρ' => ts' = [oKv (tkL (i.rs.take j))] ∧ ∃ x y, ρ' = rho x y (some (tyV (.ref a)))) (fun j ρ' => (ρ'.set 2 (some (tyD K (.int (j : Nat))))).set 3 (some (tyD K ((i.rs.map pairD).getD j .none))))
        PassesOwn.never rfl (ti_enumT B.enumerate (te_var 0 (T := tyD K (rulesD i.rs)))) ⟨rfl, x, y, rfl⟩ (fun ts' ρ' ⟨e1, x, y, e2⟩ => ?_) (fun j ts' ρ' hj _ => tg_pairD 2 3 rfl sc21.nd (by decide) (by decide)) fun j ts' ρ' hj ⟨e1, x, y, e2⟩ => ?_)
      · subst e1 e2
        exact os_one (os_ret Open.rfl' te_non)
      · subst e1 e2
        obtain ⟨hj', e⟩ := rl j hj
        rw [e]
        have fresh : i.rs[j] ∉ i.rs.take j := fun z => by
          obtain ⟨q, hq, ej⟩ := List.mem_iff_getElem.mp z
          rw [List.length_take] at hq
          rw [List.getElem_take] at ej
          have q3 : q = j := (List.getElem_inj i.nd).mp ej
          omega
        refine os_cons (os_if (k := false) (ot_thaw ((Open.rfl').d 4 0) (tt_is (tt_inKv (r := i.rs[j]) (kvs := tkL (i.rs.take j)) (hu_of' hr) (te_var 3) (te_var 4)) (by rw [tkL_val fresh]; rfl))) (fun h => nomatch h) fun _ => os_nil ?_)
        refine os_one (os_put 4 0 (r := i.rs[j]) (w := .bl true) (kvs := tkL (i.rs.take j)) (hu_of' hr) (oe_frame (te_c pe_bl fun _ => rfl)) (oe_frame (te_var 3)) ?_ (by rw [tkL_len, List.length_take]; have := i.len; omega))
        refine ⟨?_, _, _, rfl⟩
        rw [tkL_put fresh, List.take_succ, List.getElem?_eq_getElem hj']
        rfl
    · subst e
      obtain ⟨hj', e⟩ := rl j hj
      rw [e]
      exact ts_one (ts_if (k := false) (tt_not (c := true) (tt_fn (i := ⟨i.cs, i.rs[j], i.L, i.R _ (List.getElem_mem hj')⟩) (c := true) c20 hr rfl (ta_cons (te_var 3) (ta_one (te_var 1) rfl)))) (fun h => nomatch h) fun _ => ts_nil ⟨_, _, rfl⟩)
theorem TbOk.ix {T : Tb} (h : TbOk T) : ∃ i : RsIx, i.cs = T.ls ∧ i.rs = T.rs := ⟨⟨T.ls, T.rs, h.ls, h.rs, h.nd, h.len⟩, rfl, rfl⟩
abbrev CLetters (P : Program) (w : World) (K : PySem.W.Frag) (mg : Str → Option Value) (base : Heap) : Prop := Cal P w K mg base 3 "are_letters" (fun i : { cs : List Nat // LetOk cs } => [tyD K (letD i.1)]) (fun _ => tyD K (.bool true))
abbrev CManner (P : Program) (w : World) (K : PySem.W.Frag) (mg : Str → Option Value) (base : Heap) : Prop := Cal P w K mg base 1 "is_manner" (fun i : { z : Str // z ∈ manners } => [tyD K (.str i.1)]) (fun _ => tyD K (.bool true))
abbrev CFault (P : Program) (w : World) (K : PySem.W.Frag) (mg : Str → Option Value) (base : Heap) : Prop := Cal P w K mg base 7 "table_fault" (fun i : { T : Tb // TbOk T } => [tyD K (tbD i.1)]) (fun _ => tyD K .none)
/-- a, b, c = a tuple of three -/
theorem tg_tripD {X : Cx} {K : PySem.W.Frag} {vs : List Nat} {ρ : Rho} {d1 d2 d3 : PyData} {x y z : Str} {p1 p2 p3 pos : Pos} {k : Nat} (i j l : Nat) (hc : X.calm = true) (hN : X.N.Nodup) (vi : i ∈ vs) (vj : j ∈ vs) (vl : l ∈ vs) (hK : X.K = K := by rfl) (hi : X.N[i]? = some x := by rfl) (hj : X.N[j]? = some y := by rfl) (hl : X.N[l]? = some z := by rfl)
    (hx : Loc X.env.scope x := by first | exact Or.inl rfl | exact Or.inr rfl) (hy : Loc X.env.scope y := by first | exact Or.inl rfl | exact Or.inr rfl) (hz : Loc X.env.scope z := by first | exact Or.inl rfl | exact Or.inr rfl)
    (hfx : X.fn x = true ∨ X.env.scope.names.lookup x = some .local := by first | exact .inl rfl | exact .inr rfl) (hfy : X.fn y = true ∨ X.env.scope.names.lookup y = some .local := by first | exact .inl rfl | exact .inr rfl) (hfz : X.fn z = true ∨ X.env.scope.names.lookup z = some .local := by first | exact .inl rfl | exact .inr rfl) :
    PG X (.Tuple [.Name x p1, .Name y p2, .Name z p3] k pos) (gT vs ρ (tyD K (.tuple [d1, d2, d3])) (((ρ.set i (some (tyD K d1))).set j (some (tyD K d2))).set l (some (tyD K d3)))) := by
  subst hK
  exact tg_tup hc (tgs_cons (tg_name i hN vi hi hx hfx) (tgs_cons (tg_name j hN vj hj hy hfy) (tgs_cons (tg_name l hN vl hl hz hfz) tgs_nil)))
theorem sc22 : FnScope ["thing", "letters", "rules", "manner", "fault"] ["thing"] (scopeAt 22) := ⟨rfl, rfl, rfl, by decide +kernel, rfl, by decide +kernel, by decide +kernel⟩
theorem ok_table_fault (F : DefAt K "table_fault" 22 f fd) (hm : mg "table_fault" = some (.ref f)) (B : Free mg) (c18 : CLetters P w K mg base) (c21 : CRules P w K mg base) (c17 : CManner P w K mg base) : CFault P w K mg base := by
  refine cal_of F hm sc22 (fun kV doc pm an cdv ct us hl => ?_) (fun _ => rfl) fun i cdv A outer s H E hr => ?_
  · match us, hl with
    | [a], _ => rfl
  · obtain ⟨T, O⟩ := i
    refine ts_cons (ts_if (k := false) (PW.pt (tw_or (c := false) (d := false) (tt_not (c := true) (tt_val (te_isi B.isinstance (te_var 0 (T := tyD K (tbD T))) B.tuple PyProof.Rows.boot_tuple rfl))) fun _ => tw_or1 (tt_neI (te_len (d := tbD T) (n := 3) B.len (te_var 0)) te_int))) (fun h => nomatch h) fun _ => ts_nil ?_)
    refine ts_cons (ts_asg (vs := [1, 2, 3]) (te_var 0 (T := tyD K (tbD T))) (tg_tripD 1 2 3 rfl sc22.nd (by decide) (by decide) (by decide)) ?_)
    refine ts_cons (ts_if (k := false) (tt_not (c := true) (tt_fn (i := ⟨T.ls, O.ls⟩) (c := true) c18 (hr.mono (by decide)) rfl (ta_one (te_var 1) rfl))) (fun h => nomatch h) fun _ => ts_nil ?_)
    refine ts_cons (ts_if (k := false) (tt_not (c := true) (tt_val (te_isi B.isinstance (te_var 2 (T := tyD K (rulesD T.rs))) B.tuple PyProof.Rows.boot_tuple rfl))) (fun h => nomatch h) fun _ => ts_nil ?_)
    refine ts_cons (ts_set 4 (te_fn (i := ⟨T.ls, T.rs, O.ls, O.rs, O.nd, O.len⟩) c21 (hr.mono (by decide)) (ta_cons (te_var 2) (ta_one (te_var 1) rfl))) ?_ sc22.nd)
    refine ts_cons (ts_if (k := true && false) (PW.pt (tw_and (tt_isN (d := .none) (te_var 4)) fun _ => tw_and1 (tt_not (c := true) (tt_fn (i := ⟨T.m, O.m⟩) (c := true) c17 (hr.mono (by decide)) rfl (ta_one (te_var 3) rfl))))) (fun h => nomatch h) fun _ => ts_nil ?_)
    exact ts_one (ts_ret (te_var 4))
theorem sc23 : FnScope ["thing"] ["thing"] (scopeAt 23) := ⟨rfl, rfl, rfl, by decide +kernel, rfl, by decide +kernel, by decide +kernel⟩
abbrev CTable (P : Program) (w : World) (K : PySem.W.Frag) (mg : Str → Option Value) (base : Heap) : Prop := Cal P w K mg base 8 "is_table" (fun i : { T : Tb // TbOk T } => [tyD K (tbD i.1)]) (fun _ => tyD K (.bool true))
theorem ok_is_table (F : DefAt K "is_table" 23 f fd) (hm : mg "is_table" = some (.ref f)) (c22 : CFault P w K mg base) : CTable P w K mg base := by
  refine cal_of F hm sc23 (fun kV doc pm an cdv ct us hl => ?_) (fun _ => rfl) fun i cdv A outer s H E hr => ?_
  · match us, hl with
    | [a], _ => rfl
  · exact ts_one (ts_ret (te_isN (d := .none) (te_fn (i := i) c22 hr (ta_one (te_var 0) rfl))))
end
end K14
/-! LA: require_usable (kept), lets_table, boundaries_of, with_rule, without_rule, with_manner. -/
namespace K14
open PySem PySem.Spec PyProof.Rows L2
theorem eqv_pair (q p : Rule) : PyData.eqv (pairD q) (pairD p) = decide (q = p) := by
  obtain ⟨a, b⟩ := q
  obtain ⟨c, d⟩ := p
  by_cases h1 : a = c <;> by_cases h2 : b = d <;> simp [pairD, PyData.eqv, PyData.eqvAll, h1, h2]
theorem inD_pairs {p : Rule} {rs : List Rule} : inD (rs.map pairD) (pairD p) = decide (p ∈ rs) := by
  unfold inD
  rw [List.any_map]
  by_cases h : p ∈ rs
  · rw [decide_eq_true h, List.any_eq_true]
    exact ⟨p, h, by simp [eqv_pair]⟩
  · rw [decide_eq_false h, List.any_eq_false]
    intro q hq
    have : q ≠ p := fun e => h (e ▸ hq)
    simp [eqv_pair, this]
theorem RuleOf.shD {cs : List Nat} {p : Rule} (L : LetOk cs) (h : RuleOf cs p) : Low p.1 ∧ Low p.2 := ⟨(h.l.text L).low, (h.r.text L).low⟩
theorem took_drop {α : Type} (rs : List α) (k : Nat) (d : α) (p : Nat → Bool) (hp : ∀ j, p j = !decide (((j : Nat) : Int) = ((k : Nat) : Int))) (hk : k < rs.length) : took rs.length p (fun j => rs.getD j d) = rs.take k ++ rs.drop (k + 1) := by
  have key : ∀ n, n ≤ rs.length → took n p (fun j => rs.getD j d) = (rs.take (min k n)) ++ ((rs.take n).drop (k + 1)) := by
    intro n
    induction n with
    | zero => intro _; simp [took]
    | succ n ih =>
      intro hn
      have hl : n < rs.length := hn
      have ex : rs.getD n d = rs[n] := by rw [List.getD_eq_getElem?_getD, List.getElem?_eq_getElem hl]; rfl
      rw [took_succ, ih (by omega), hp n, ex]
      by_cases h1 : n = k
      · subst h1
        simp [List.drop_take]
      · have h2 : ¬ ((n : Int) = (k : Int)) := by omega
        rw [decide_eq_false h2, Bool.not_false, if_pos rfl]
        by_cases h3 : n < k
        · rw [Nat.min_eq_right (by omega), Nat.min_eq_right (by omega), List.drop_of_length_le (by rw [List.length_take]; omega), List.drop_of_length_le (by rw [List.length_take]; omega), List.append_nil, List.append_nil, List.take_succ, List.getElem?_eq_getElem hl]
          rfl
        · rw [Nat.min_eq_left (by omega), Nat.min_eq_left (by omega), List.append_assoc, List.take_succ, List.getElem?_eq_getElem hl, List.drop_append_of_le_length (by rw [List.length_take]; omega)]
          rfl
  rw [key _ (Nat.le_refl _), Nat.min_eq_left (Nat.le_of_lt hk), List.take_length]
/-- anything -/
def tyAny : Ty := ⟨fun _ _ => True, fun _ h => h⟩
section
variable {P : Program} {w : World} {K : PySem.W.Frag} {mg : Str → Option Value} {base : Heap} {f : Addr} {fd : FuncData}
abbrev CUse (P : Program) (w : World) (K : PySem.W.Frag) (mg : Str → Option Value) (base : Heap) : Prop := Cal P w K mg base 1 "require_usable" (fun i : Str => [tyD K (.bool true), tyD K (.str i)]) (fun _ => tyD K .none)
theorem sc33 : FnScope ["is_usable", "word"] ["is_usable", "word"] (scopeAt 33) := ⟨rfl, rfl, rfl, by decide +kernel, rfl, by decide +kernel, by decide +kernel⟩
theorem ok_require_usable (F : DefAt K "require_usable" 33 f fd) (hm : mg "require_usable" = some (.ref f)) : CUse P w K mg base := by
  refine cal_of F hm sc33 (fun kV doc pm an cdv ct us hl => ?_) (fun _ => rfl) fun i cdv A outer s H E hr => ?_
  · match us, hl with
    | [a, b], _ => rfl
  · exact ts_one (ts_if (k := false) (tt_not (c := true) (tt_val (te_var 0))) (fun h => nomatch h) fun _ => ts_nil fun H => .non)
theorem sc34 : FnScope ["thing", "fault", "word", "place"] ["thing"] (scopeAt 34) := ⟨rfl, rfl, rfl, by decide +kernel, rfl, by decide +kernel, by decide +kernel⟩
abbrev CLets (P : Program) (w : World) (K : PySem.W.Frag) (mg : Str → Option Value) (base : Heap) : Prop := Cal P w K mg base 8 "lets_table" (fun i : { T : Tb // TbOk T } => [tyD K (tbD i.1)]) (fun i => tyD K (.int (i.1.rs.length : Nat)))
theorem ok_lets_table (F : DefAt K "lets_table" 34 f fd) (hm : mg "lets_table" = some (.ref f)) (B : Free mg) (c22 : CFault P w K mg base) : CLets P w K mg base := by
  refine cal_of F hm sc34 (fun kV doc pm an cdv ct us hl => ?_) (fun _ => rfl) fun i cdv A outer s H E hr => ?_
  · match us, hl with
    | [a], _ => rfl
  · refine ts_cons (ts_set 1 (te_fn (i := i) c22 hr (ta_one (te_var 0) rfl)) ?_ sc34.nd)
    refine ts_cons (ts_if (k := false) (tt_notN (d := .none) (te_var 1)) (fun h => nomatch h) fun _ => ts_nil ?_)
    have hl : lenD (rulesD i.1.rs) = some i.1.rs.length := congrArg some (List.length_map ..)
    exact ts_one (ts_ret (te_len (d := rulesD i.1.rs) B.len (te_ixT (te_var 0 (T := tyD K (tbD i.1))) te_int rfl) hl (Nat.le_trans i.2.len (by decide))))
/-! boundaries_of -/
abbrev CBound (P : Program) (w : World) (K : PySem.W.Frag) (mg : Str → Option Value) (base : Heap) : Prop := Cal P w K mg base 1 "boundaries_of" (fun i : { xs : List Str // RowOk xs } => [tyD K (strsD i.1)]) (fun _ => tyAny)
theorem sc36 : FnScope ["pieces", "found", "letters", "piece"] ["pieces"] (scopeAt 36) := ⟨rfl, rfl, rfl, by decide +kernel, rfl, by decide +kernel, by decide +kernel⟩
theorem ok_boundaries_of (F : DefAt K "boundaries_of" 36 f fd) (hm : mg "boundaries_of" = some (.ref f)) (B : Free mg) : CBound P w K mg base := by
  refine cal_of F hm sc36 (fun kV doc pm an cdv ct us hl => ?_) (fun _ => rfl) fun i cdv A outer s H E hr => ?_
  · match us, hl with
    | [a], _ => rfl
  · obtain ⟨xs, O⟩ := i
    have hcl : (cutL (xs.map PyData.str) none (some (-1))).length ≤ xs.length := Nat.le_trans (cutL_len _ _ _) (Nat.le_of_eq (List.length_map ..))
    have hat : ∀ j, j < (cutL (xs.map PyData.str) none (some (-1))).length → ∃ x ∈ xs, (cutL (xs.map PyData.str) none (some (-1))).getD j .none = .str x := fun j hj => by
      rw [cutL_last, ← List.map_dropLast] at hj ⊢
      have hj' : j < xs.dropLast.length := by simpa using hj
      exact ⟨_, List.dropLast_subset _ (List.getElem_mem hj'), getD_map PyData.str .none _ j hj'⟩
    refine os_new 1 ne_lst (fun a => ?_) sc36.nd
    refine os_cons (os_set 2 (oe_frame (te_int (i := 0))) ?_ sc36.nd)
    refine os_cons (os_for (n := (cutL (xs.map PyData.str) none (some (-1))).length) (item := itD K (cutL (xs.map PyData.str) none (some (-1)))) (vs := [3]) (fun j ts' ρ' => ∃ ds m y, ds.length = j ∧ ts' = [oL K ds] ∧ ρ' = [some (tyD K (strsD xs)), some (tyV (.ref a)), some (tyD K (.int (m : Nat))), y]) (fun j ρ' => ρ'.set 3 (some (tyD K ((cutL (xs.map PyData.str) none (some (-1))).getD j .none))))
      PassesOwn.never rfl (ti_tup (te_slT (te_var 0 (T := tyD K (strsD xs))) to_none (to_some (te_negI (te_int (i := 1)))))) ⟨[], 0, none, rfl, rfl, rfl⟩ (fun ts' ρ' ⟨ds, m, y, e1, e2, e3⟩ => ?_) (fun j ts' ρ' hj _ => tg_name 3 sc36.nd (by decide)) fun j ts' ρ' hj ⟨ds, m, y, e1, e2, e3⟩ => ?_)
    · subst e2 e3
      exact os_one (os_ret (Open.l (ds := ds) 1 0 Open.rfl') (te_tupleL B.tuple (te_le (te_var 1 (T := tyTL K ds)) tyTL_le)) (fun _ _ _ => True.intro))
    · subst e2 e3
      obtain ⟨x, hx, e⟩ := hat j hj
      rw [e]
      have hz := (O.each x hx).text.size
      refine os_cons (os_set 2 (T := tyD K (.int ((m + x.cps.size : Nat)))) (oe_frame ?_) ?_ sc36.nd)
      · exact te_d (te_addI (te_var 2) (te_len (d := .str x) B.len (te_var 3) rfl (Nat.le_trans hz (by decide)))) rfl
      · refine os_one (os_app 1 0 (ds := ds) (oe_frame (te_var 2)) ⟨_, _, _, ?_, rfl, rfl⟩ ?_)
        · rw [List.length_append, e1]
          rfl
        · have := O.len
          omega
/-! the changes of tables -/
structure WrIx where
  T : Tb
  p : Rule
  O : TbOk T
  R : RuleOf T.ls p
  n : p ∉ T.rs
abbrev CWith (P : Program) (w : World) (K : PySem.W.Frag) (mg : Str → Option Value) (base : Heap) : Prop := CalK P w K mg base 6 "with_rule" (fun i : WrIx => [tyD K (tbD i.T), tyD K (pairD i.p), tyD K .none]) (fun i => tyD K (tbD ⟨i.T.ls, i.T.rs ++ [i.p], i.T.m⟩)) [.non] 2 ["rank"]
theorem shD_rs {T : Tb} (O : TbOk T) : SeqAt.shaped (.tuple (T.rs.map pairD)) = true := (shD_rules fun p hp => (O.rs p hp).shD O.ls).shaped
theorem sc43 : FnScope ["table", "rule", "rank", "letters", "rules", "manner", "at"] ["table", "rule", "rank"] (scopeAt 43) := ⟨rfl, rfl, rfl, by decide +kernel, rfl, by decide +kernel, by decide +kernel⟩
theorem ok_with_rule (F : FunD K "with_rule" "with_rule" (argsAt 43) (bodyAt 43) (scopeAt 43) [] [("rank", .non)] f fd) (hm : mg "with_rule" = some (.ref f)) (B : Free mg) (c20 : CRuleOf P w K mg base) (c33 : CUse P w K mg base) : CWith P w K mg base := by
  refine calK_of (kws := [("rank", .non)]) 2 F hm sc43 (by decide) rfl (fun D doc pm an cdv ct us ws h1 h2 => ?_) (fun kV doc pm an cdv ct us ws h1 h2 => ?_) (fun _ => rfl) fun i cdv A outer s H E hr => ?_
  · match us, h1, ws, h2 with
    | [a, b], _, [c], _ => exact ⟨_, _, _, _, _, _, rfl, rfl, rfl⟩
  · match us, h1, ws, h2 with
    | [a, b], _, [c], _ => rfl
  · obtain ⟨T, p, O, R, n⟩ := i
    have hl : lenD (rulesD T.rs) = some T.rs.length := congrArg some (List.length_map ..)
    refine ts_cons (ts_asg (vs := [3, 4, 5]) (te_var 0 (T := tyD K (tbD T))) (tg_tripD 3 4 5 rfl sc43.nd (by decide) (by decide) (by decide)) ?_)
    refine ts_cons (ts_expr (te_fn (i := ("rule" : Str)) c33 (hr.mono (by decide)) (ta_cons (te_and (c := true) (d := true) (te_fn (i := ⟨T.ls, p, O.ls, R⟩) c20 hr (ta_cons (te_var 1) (ta_one (te_var 3) rfl))) fun _ => te_one (te_b (te_notInT (units65 hr) (te_var 1) (te_le (te_var 4 (T := tyD K (rulesD T.rs))) tyD_n) (shD_pair (R.shD O.ls).1 (R.shD O.ls).2).shaped (shD_rs O)) (by rw [inD_pairs, decide_eq_false n]; rfl))) (ta_one te_str rfl))) ?_)
    refine ts_cons (ts_expr (te_fn (i := ("rank" : Str)) c33 (hr.mono (by decide)) (ta_cons (te_or (c := true) (d := true) (te_isN (d := .none) (te_var 2)) fun z => nomatch z) (ta_one te_str rfl))) ?_)
    refine ts_cons (ts_set 6 (te_ite (c := true) (tt_isN (d := .none) (te_var 2)) (fun _ => te_len (d := rulesD T.rs) B.len (te_var 4) hl (Nat.le_trans O.len (by decide))) fun z => nomatch z) ?_ sc43.nd)
    refine ts_one (ts_ret (te_tup (ds := [letD T.ls, rulesD (T.rs ++ [p]), .str T.m]) (ta_cons (te_var 3) (ta_cons (te_tupE (ds := (T.rs ++ [p]).map pairD) (ta_starT (te_slT (te_var 4 (T := tyD K (rulesD T.rs))) to_none (to_some (te_var 6))) (ta_cons (te_var 1) (ta_starT (te_slT (te_var 4 (T := tyD K (rulesD T.rs))) (to_some (te_var 6)) to_none) ta_nil))) ?_ ?_) (ta_cons (te_var 5) ta_nil)))))
    · show (cutL (T.rs.map pairD) none (some ((T.rs.length : Nat) : Int))).map (tyD K) ++ tyD K (pairD p) :: ((cutL (T.rs.map pairD) (some ((T.rs.length : Nat) : Int)) none).map (tyD K) ++ []) = ((T.rs ++ [p]).map pairD).map (tyD K)
      rw [cutL_to, cutL_from, List.append_nil, List.take_of_length_le (by rw [List.length_map]; exact Nat.le_refl _), List.drop_of_length_le (by rw [List.length_map]; exact Nat.le_refl _), List.map_append, List.map_append]
      rfl
    · rw [List.length_map, List.length_append]
      have := O.len
      show T.rs.length + 1 ≤ 100000
      omega
structure WoIx where
  T : Tb
  k : Nat
  O : TbOk T
  h : k < T.rs.length
abbrev CWithout (P : Program) (w : World) (K : PySem.W.Frag) (mg : Str → Option Value) (base : Heap) : Prop := Cal P w K mg base 3 "without_rule" (fun i : WoIx => [tyD K (tbD i.T), tyD K (.int (i.k : Nat))]) (fun i => tyD K (tbD ⟨i.T.ls, i.T.rs.take i.k ++ i.T.rs.drop (i.k + 1), i.T.m⟩))
theorem sc44 : FnScope ["table", "rank", "letters", "rules", "manner", "rule", "k"] ["table", "rank"] (scopeAt 44) := ⟨rfl, rfl, rfl, by decide +kernel, rfl, by decide +kernel, by decide +kernel⟩
theorem ok_without_rule (F : DefAt K "without_rule" 44 f fd) (hm : mg "without_rule" = some (.ref f)) (B : Free mg) (c11 : CNum P w K mg base) (c33 : CUse P w K mg base) : CWithout P w K mg base := by
  refine cal_of F hm sc44 (fun kV doc pm an cdv ct us hl => ?_) (fun _ => rfl) fun i cdv A outer s H E hr => ?_
  · match us, hl with
    | [a, b], _ => rfl
  · obtain ⟨T, k, O, hk⟩ := i
    have hl : lenD (rulesD T.rs) = some T.rs.length := congrArg some (List.length_map ..)
    have hl2 : (T.rs.map pairD).length = T.rs.length := List.length_map ..
    refine ts_cons (ts_asg (vs := [2, 3, 4]) (te_var 0 (T := tyD K (tbD T))) (tg_tripD 2 3 4 rfl sc44.nd (by decide) (by decide) (by decide)) ?_)
    refine ts_cons (ts_expr (te_fn (i := ("rank" : Str)) c33 (hr.mono (by decide)) (ta_cons (te_and (c := true) (d := true) (te_fn (i := ⟨(k : Int), Int.natCast_nonneg _⟩) c11 hr (ta_one (te_var 1) rfl)) fun _ => te_one (te_b (te_lt (te_var 1) (te_len (d := rulesD T.rs) (n := T.rs.length) B.len (te_var 3) hl (Nat.le_trans O.len (by decide)))) (decide_eq_true (Int.ofNat_lt.mpr hk)))) (ta_one te_str rfl))) ?_)
    refine ts_one (ts_ret (te_tup (ds := [letD T.ls, rulesD (T.rs.take k ++ T.rs.drop (k + 1)), .str T.m]) (ta_cons (te_var 2) (ta_cons (te_tupleL (ds := (T.rs.take k ++ T.rs.drop (k + 1)).map pairD) B.tuple ?_) (ta_cons (te_var 4) ta_nil)))))
    refine te_lcL (n := T.rs.length) (item := fun j => tyD K (.tuple [.int (j : Nat), (T.rs.map pairD).getD j .none])) (p := fun j => !decide (((j : Nat) : Int) = ((k : Nat) : Int))) (el := fun j => pairD (T.rs.getD j ("", ""))) (nxt := fun j => _) [("rule", 5), ("k", 6)] rfl sc44.nd ?_ (Nat.le_trans O.len (by decide)) (blkOk_by (N := ["table", "rank", "letters", "rules", "manner", "rule", "k"]) (sc := scopeAt 44) (by decide +kernel))
      (lcokIf (fun j hj s' H' C cl fp => tg_pairD 6 5 rfl sc44.nd (by decide) (by decide)) (fun j hj s' H' C cl fp => tt_neI (te_var 6) (te_var 1)) (fun j hj hb s' H' C cl fp => ?_)) ?_
    · rw [← hl2]
      exact ti_enumT B.enumerate (te_var 3 (T := tyD K (rulesD T.rs)))
    · refine te_d (te_var 5) ?_
      rw [getD_map pairD .none T.rs j hj, List.getD_eq_getElem?_getD, List.getElem?_eq_getElem hj]
      rfl
    · rw [took_D T.rs.length _ (fun j => T.rs.getD j ("", "")) pairD, took_drop T.rs k ("", "") _ (fun _ => rfl) hk]
structure WmIx where
  T : Tb
  m : Str
  h : m ∈ manners
abbrev CWithM (P : Program) (w : World) (K : PySem.W.Frag) (mg : Str → Option Value) (base : Heap) : Prop := Cal P w K mg base 2 "with_manner" (fun i : WmIx => [tyD K (tbD i.T), tyD K (.str i.m)]) (fun i => tyD K (tbD ⟨i.T.ls, i.T.rs, i.m⟩))
theorem sc45 : FnScope ["table", "manner"] ["table", "manner"] (scopeAt 45) := ⟨rfl, rfl, rfl, by decide +kernel, rfl, by decide +kernel, by decide +kernel⟩
theorem ok_with_manner (F : DefAt K "with_manner" 45 f fd) (hm : mg "with_manner" = some (.ref f)) (c17 : CManner P w K mg base) (c33 : CUse P w K mg base) : CWithM P w K mg base := by
  refine cal_of F hm sc45 (fun kV doc pm an cdv ct us hl => ?_) (fun _ => rfl) fun i cdv A outer s H E hr => ?_
  · match us, hl with
    | [a, b], _ => rfl
  · obtain ⟨T, m, h⟩ := i
    refine ts_cons (ts_expr (te_fn (i := ("manner" : Str)) c33 hr (ta_cons (te_fn (i := ⟨m, h⟩) c17 hr (ta_one (te_var 1) rfl)) (ta_one te_str rfl))) ?_)
    exact ts_one (ts_ret (te_tup (ds := [letD T.ls, rulesD T.rs, .str m]) (ta_cons (te_ixT (te_var 0 (T := tyD K (tbD T))) te_int rfl) (ta_cons (te_ixT (te_var 0 (T := tyD K (tbD T))) te_int rfl) (ta_cons (te_var 1) ta_nil)))))
end
end K14
/-! LB: texts turned round, joined, in f-strings; mirrored, rule_text, table_text. -/
namespace K14
open PySem PySem.Spec PyProof.Rows L2
/-- a text from its end -/
def revS (z : Str) : Str := ⟨z.cps.toList.reverse.toArray⟩
theorem rev_ixs (n : Nat) : Builtin.Str.strSliceIndices none none (-1) n = (List.range n).map fun k => n - 1 - k := PySem.W.krv_sliceRange n
theorem rev_made (z : Str) : (⟨((Builtin.Str.strSliceIndices none none (-1) z.length).filterMap (z.cps[·]?)).toArray⟩ : Str) = revS z := by
  rw [rev_ixs, PySem.W.krv_range, List.filterMap_reverse]
  have e : (List.range z.length).filterMap (z.cps[·]?) = z.cps.toList := PySem.W.krv_all z.cps
  rw [e]
  rfl
section
variable {X : Cx}
def tRevS (te : TE) : TE := fun σ H Q => te σ H fun x H1 => ∃ z : Str, x = .str z ∧ z.length ≤ sizeLine ∧ Q (.str (revS z)) H1
theorem pe_revS {e : Expr} {te : TE} {k : Nat} {p1 p2 p3 pos : Pos} (he : PE X e te) : PE X (.Subscript e (.Slice none none (some (.UnaryOp .USub (.Constant (.int 1) k p1) p2)) p3) pos) (tRevS te) := by
  refine ⟨fun pins s σ H Q I h => ?_⟩
  refine Subscript_ (thn (he.run pins s σ H _ I h) fun v s1 ⟨x, H1, I1, r1, q1⟩ => ?_)
  obtain ⟨z, ex, hz, q⟩ := q1
  subst ex
  obtain ⟨t, rfl⟩ := r1
  have hst : PO X (some (.UnaryOp .USub (.Constant (.int 1) k p1) p2)) (tPart (tUn (rU fun i => .int (-i)) (tC (.int 1)))) := po_some (pe_un un_neg pe_int)
  refine wpAny_Slice (thn (po_none.run pins s1 σ H1 (fun o H2 => o = none ∧ H2 = H1) I1 ⟨rfl, rfl⟩) fun vl s2 ⟨l, H2, I2, pl, el, e2⟩ => ?_)
  subst el e2
  refine thn (po_none.run pins s2 σ H2 (fun o H3 => o = none ∧ H3 = H2) I2 ⟨rfl, rfl⟩) fun vu s3 ⟨u, H3, I3, pu, eu, e3⟩ => ?_
  subst eu e3
  refine thn (hst.run pins s3 σ H3 (fun o H4 => o = some (-1) ∧ H4 = H3) I3 ⟨1, rfl, -1, rfl, rfl, rfl⟩) fun vs s4 ⟨o, H4, I4, ps, eo, e4⟩ => ?_
  subst eo e4
  have I5 : Inv X pins σ H4 { s4 with heap := s4.heap.push { cls := .type "slice", data := .fields #[vl, vu, vs] } } := I4.kept (t' := s4.toks) fun b ob q => Heap.get?_push_of_some _ q
  show wpAny (model X.prog X.w) X.A (subscriptTail e (.Slice none none (some (.UnaryOp .USub (.Constant (.int 1) k p1) p2)) p3) (.str z t) (.ref s4.heap.objs.size)) (EP X pins σ Q) X.xe { s4 with heap := s4.heap.push { cls := .type "slice", data := .fields #[vl, vu, vs] } }
  refine tail_any (ops := [.str z t, .ref s4.heap.objs.size]) (typeIs_str _ z t) (PySem.F.slot_str_getitem.lookup) ?_ (by with_unfolding_all rfl)
  obtain ⟨os, hos, hcs, hds⟩ := Heap.IsSliceOf.new s4.heap vl vu vs
  obtain ⟨l, rfl, el⟩ := IsPart.raw pl
  obtain ⟨u, rfl, eu⟩ := IsPart.raw pu
  obtain ⟨st, rfl, est⟩ := IsPart.raw ps
  refine wpAny_getItem_str_slice (l := l) (u := u) (st := st) ⟨os, hos, hcs, hds⟩ (by rw [est]; rfl) ?_
  show Made.post (if (((st.map (·.1)).getD 1) == 1 && (Builtin.Str.strSliceIndices (l.map (·.1)) (u.map (·.1)) ((st.map (·.1)).getD 1) z.length).length == z.length) = true then Made.val (.str z t)
    else Made.str ⟨((Builtin.Str.strSliceIndices (l.map (·.1)) (u.map (·.1)) ((st.map (·.1)).getD 1) z.length).filterMap (z.cps[·]?)).toArray⟩) (EP X pins σ Q) _
  rw [est, el, eu]
  show Made.post (Made.str ⟨((Builtin.Str.strSliceIndices none none (-1) z.length).filterMap (z.cps[·]?)).toArray⟩) (EP X pins σ Q) _
  rw [rev_made]
  have hl : (revS z).length ≤ sizeLine := by
    show (z.cps.toList.reverse.toArray).size ≤ sizeLine
    rw [List.size_toArray, List.length_reverse]
    exact hz
  exact ⟨hl, .str _, H4, I5.tok _, ⟨_, rfl⟩, q⟩
variable {a b e : Expr} {ρ : Rho} {pos apos p : Pos} {z : Str} {es : List Expr}
theorem te_revS {k : Nat} {p1 p2 p3 : Pos} (he : PE X e (tT ρ (dS X z))) (hz : z.length ≤ 1000000) : PE X (.Subscript e (.Slice none none (some (.UnaryOp .USub (.Constant (.int 1) k p1) p2)) p3) pos) (tT ρ (dS X (revS z))) := pe_weak (pe_revS he) fun σ H Q q =>
  ⟨q.1, fun v H1 e1 hv => ⟨z, Dp.str_ hv, by rw [sizeLine_eq]; omega, q.2 _ H1 e1 (.str _)⟩⟩
/-- sep.join(texts) -/
theorem str_vals {K : PySem.W.Frag} {H : Hp} : ∀ {xs : List V} {ys : List Str}, DpAll K H xs (ys.map .str) → xs = ys.map V.str
  | [], [], _ => rfl
  | x :: xs, y :: ys, h => by
    cases h with
    | cons h1 h2 => rw [Dp.str_ h1, str_vals h2, List.map_cons]
theorem te_joinT {ys : List Str} (ho : PE X a (tT ρ (dS X z))) (he : PE X e (tT ρ (tyD X.K (strsD ys)))) (hl : (ys.map (·.length)).sum + ys.length * z.length ≤ 16777216) (hs : starEach [e] X.env = [(false, eval e X.env)] := by rfl) (hbase : attributeBase a "join" X.env (eval a X.env) = eval a X.env := by rfl) (hline : (apos.endLine == pos.line) = true := by rfl) :
    PE X (.Call (.Attribute a "join" apos) [e] [] pos) (tT ρ (dS X (Txt.join z ys))) := pe_weak (pe_join ho he hs hbase hline) fun σ H Q q =>
  ⟨q.1, fun v H1 e1 hv => ⟨⟨z, Dp.str_ hv⟩, q.1.mono e1, fun w H2 e2 hw => by
    obtain ⟨p, xs, rfl, h1, h2⟩ := Dp.tup_ hw
    rw [str_vals h2] at h1
    exact ⟨z, p, ys, Dp.str_ hv, rfl, .inr h1.sq, hl, q.2 _ H2 (e1.trans e2) (.str _)⟩⟩⟩
theorem te_joinL {ys : List Str} (ho : PE X a (tT ρ (dS X z))) (he : PE X e (tT ρ (tyTL X.K (ys.map .str)))) (hl : (ys.map (·.length)).sum + ys.length * z.length ≤ 16777216) (hs : starEach [e] X.env = [(false, eval e X.env)] := by rfl) (hbase : attributeBase a "join" X.env (eval a X.env) = eval a X.env := by rfl) (hline : (apos.endLine == pos.line) = true := by rfl) :
    PE X (.Call (.Attribute a "join" apos) [e] [] pos) (tT ρ (dS X (Txt.join z ys))) := pe_weak (pe_join ho he hs hbase hline) fun σ H Q q =>
  ⟨q.1, fun v H1 e1 hv => ⟨⟨z, Dp.str_ hv⟩, q.1.mono e1, fun w H2 e2 ⟨p, xs, ew, h1, h2⟩ => by
    rw [str_vals h2] at h1
    exact ⟨z, p, ys, Dp.str_ hv, by rw [ew], .inl (.of h1), hl, q.2 _ H2 (e1.trans e2) (.str _)⟩⟩⟩
/-! f-strings of texts -/
structure PJT (X : Cx) (ρ : Rho) (es : List Expr) (ys : List Str) : Prop where
  ex : ∃ ts, PJ X es ts ∧ ∀ (acc : Str) (σ : L2.St) (H : Hp) (Q : Str → Hp → Prop), EnvT H σ ρ → (ys.foldl (· ++ ·) acc).length ≤ 1000000 → (∀ H', Gr H H' → Q (ys.foldl (· ++ ·) acc) H') → tJs ts acc σ H Q
theorem foldl_len : ∀ (ys : List Str) (acc : Str), acc.length ≤ (ys.foldl (· ++ ·) acc).length
  | [], _ => Nat.le_refl _
  | y :: ys, acc => Nat.le_trans (by rw [Str.length_append]; omega) (foldl_len ys (acc ++ y))
theorem pj_nil : PJT X ρ [] [] := ⟨[], .nil, fun acc σ H Q _ _ k => k H (Gr.refl H)⟩
theorem pj_cons {ys : List Str} (h : PE X e (tT ρ (dS X z))) (r : PJT X ρ es ys) : PJT X ρ (e :: es) (z :: ys) := by
  obtain ⟨ts, hp, k⟩ := r.ex
  refine ⟨_, .cons h hp, fun acc σ H Q hE hl q => ⟨hE, fun v H1 e1 hv => ⟨z, Dp.str_ hv, ?_, k (acc ++ z) σ H1 Q (hE.mono e1) hl fun H' e2 => q H' (e1.trans e2)⟩⟩⟩
  have := foldl_len ys (acc ++ z)
  have hl' : (ys.foldl (· ++ ·) (acc ++ z)).length ≤ 1000000 := hl
  rw [sizeLine_eq]
  omega
theorem te_fstr {v1 v2 : Expr} {rest : List Expr} {ys : List Str} (h : PJT X ρ (v1 :: v2 :: rest) ys) (hl : (ys.foldl (· ++ ·) Str.empty).length ≤ 1000000) : PE X (.JoinedStr (v1 :: v2 :: rest) pos) (tT ρ (dS X (ys.foldl (· ++ ·) Str.empty))) := by
  obtain ⟨ts, hp, k⟩ := h.ex
  exact pe_weak (pe_joined hp) fun σ H Q q => k _ σ H _ q.1 hl fun H' e1 => q.2 _ H' e1 (.str _)
theorem te_fmt (he : PE X e (tT ρ (dS X z))) (hz : z.length ≤ 16777216) : PE X (.FormattedValue e (-1) none pos) (tT ρ (dS X z)) := pe_weak (pe_fmt he) fun σ H Q q =>
  ⟨q.1, fun v H1 e1 hv => .inl ⟨z, Dp.str_ hv, by rw [sizeLine_eq]; omega, q.2 _ H1 e1 (.str _)⟩⟩
theorem te_f1 {T : Ty} (he : PE X e (tT ρ T)) : PE X (.JoinedStr [e] pos) (tT ρ T) := pe_joined1 he
end
section
variable {P : Program} {w : World} {K : PySem.W.Frag} {mg : Str → Option Value} {base : Heap} {f : Addr} {fd : FuncData}
/-! rule_text, table_text -/
def ruleT (p : Rule) : Str := Str.empty ++ "join " ++ p.1 ++ " " ++ p.2
abbrev CRuleT (P : Program) (w : World) (K : PySem.W.Frag) (mg : Str → Option Value) (base : Heap) : Prop := Cal P w K mg base 1 "rule_text" (fun i : { p : Rule // p.1.length ≤ 1000 ∧ p.2.length ≤ 1000 } => [tyD K (pairD i.1)]) (fun i => tyD K (.str (ruleT i.1)))
theorem sc48 : FnScope ["rule", "left", "right"] ["rule"] (scopeAt 48) := ⟨rfl, rfl, rfl, by decide +kernel, rfl, by decide +kernel, by decide +kernel⟩
theorem ok_rule_text (F : DefAt K "rule_text" 48 f fd) (hm : mg "rule_text" = some (.ref f)) : CRuleT P w K mg base := by
  refine cal_of F hm sc48 (fun kV doc pm an cdv ct us hl => ?_) (fun _ => rfl) fun i cdv A outer s H E hr => ?_
  · match us, hl with
    | [a], _ => rfl
  · obtain ⟨p, h1, h2⟩ := i
    refine ts_cons (ts_asg (vs := [1, 2]) (te_var 0 (T := tyD K (pairD p))) (tg_pairD 1 2 rfl sc48.nd (by decide) (by decide)) ?_)
    refine ts_one (ts_ret (te_fstr (ys := ["join ", p.1, " ", p.2]) (pj_cons te_str (pj_cons (te_fmt (te_var 1) (by omega)) (pj_cons te_str (pj_cons (te_fmt (te_var 2) (by omega)) pj_nil)))) ?_))
    show (Str.empty ++ "join " ++ p.1 ++ " " ++ p.2).length ≤ 1000000
    rw [Str.length_append, Str.length_append, Str.length_append, Str.length_append]
    show 0 + 5 + p.1.length + 1 + p.2.length ≤ 1000000
    omega
def tableT (T : Tb) : Str := Txt.join "\n" (["letters " ++ Txt.join "" (T.ls.map sgn), "manner " ++ T.m] ++ T.rs.map ruleT)
abbrev CTableT (P : Program) (w : World) (K : PySem.W.Frag) (mg : Str → Option Value) (base : Heap) : Prop := Cal P w K mg base 2 "table_text" (fun i : { T : Tb // TbOk T } => [tyD K (tbD i.1)]) (fun i => tyD K (.str (tableT i.1)))
theorem sc49 : FnScope ["table", "letters", "rules", "manner", "heads", "rule"] ["table"] (scopeAt 49) := ⟨rfl, rfl, rfl, by decide +kernel, rfl, by decide +kernel, by decide +kernel⟩
theorem ruleT_len {p : Rule} (h1 : p.1.length ≤ 1000) (h2 : p.2.length ≤ 1000) : (ruleT p).length ≤ 2006 := by
  unfold ruleT
  rw [Str.length_append, Str.length_append, Str.length_append, Str.length_append]
  show 0 + 5 + p.1.length + 1 + p.2.length ≤ 2006
  omega
theorem sum_le {α : Type} (f : α → Nat) (b : Nat) : ∀ xs : List α, (∀ x ∈ xs, f x ≤ b) → (xs.map f).sum ≤ xs.length * b
  | [], _ => by simp
  | x :: xs, h => by
    have h1 := h x List.mem_cons_self
    have h2 := sum_le f b xs fun y hy => h y (List.mem_cons_of_mem _ hy)
    rw [List.map_cons, List.sum_cons, List.length_cons, Nat.succ_mul]
    omega
theorem heads_len (a b : Str) (xs : List Str) (ha : a.length ≤ 2006) (hb : b.length ≤ 2006) (hx : ∀ x ∈ xs, x.length ≤ 2006) (hn : xs.length ≤ 1000) : (([a, b] ++ xs).map (·.length)).sum + ([a, b] ++ xs).length * (Str.length "\n") ≤ 16777216 := by
  have h := sum_le (fun x : Str => x.length) 2006 xs hx
  have h3 : Str.length "\n" = 1 := rfl
  rw [h3, List.map_append, List.sum_append, List.length_append]
  show ([a.length, b.length].sum + (xs.map fun x : Str => x.length).sum) + (2 + xs.length) * 1 ≤ 16777216
  generalize (xs.map fun x : Str => x.length).sum = S at h ⊢
  have h4 : [a.length, b.length].sum = a.length + (b.length + 0) := rfl
  rw [h4]
  omega
theorem manners_len : ∀ x ∈ manners, x.length ≤ 11 := by decide +kernel
theorem tableT_sum {T : Tb} (O : TbOk T) : ((["letters " ++ Txt.join "" (T.ls.map sgn), "manner " ++ T.m] ++ T.rs.map ruleT).map (·.length)).sum + (["letters " ++ Txt.join "" (T.ls.map sgn), "manner " ++ T.m] ++ T.rs.map ruleT).length * (Str.length "\n") ≤ 16777216 := by
  have hm1 : T.m.length ≤ 11 := manners_len _ O.m
  have hll : ((T.ls.map sgn).map (·.length)).sum + (T.ls.map sgn).length * (Str.length "") ≤ 26 := by
    have h1 := sum_le (fun x : Str => x.length) 1 (T.ls.map sgn) (fun x hx => by
      obtain ⟨c, _, rfl⟩ := List.mem_map.mp hx
      exact Nat.le_refl _)
    have h2 := O.ls.len
    rw [List.length_map] at h1 ⊢
    show _ + T.ls.length * 0 ≤ 26
    omega
  have hjl : (Txt.join "" (T.ls.map sgn)).length ≤ 26 := by
    show (Builtin.Str.glued "" (T.ls.map sgn)).length ≤ 26
    rw [StrLaws.glued_eq_join]
    exact Nat.le_trans (StrLaws.join_length_le _ _) hll
  have hrl : ∀ p ∈ T.rs, (ruleT p).length ≤ 2006 := fun p hp => ruleT_len (O.rs p hp).l.len (O.rs p hp).r.len
  have la : ("letters " ++ Txt.join "" (T.ls.map sgn)).length ≤ 2006 := by
    rw [Str.length_append]
    exact Nat.le_trans (Nat.add_le_add_left hjl _) (by decide)
  have lb : ("manner " ++ T.m).length ≤ 2006 := by
    rw [Str.length_append]
    exact Nat.le_trans (Nat.add_le_add_left hm1 _) (by decide)
  exact heads_len _ _ _ la lb (fun x hx => by
    obtain ⟨p, hp, rfl⟩ := List.mem_map.mp hx
    exact hrl p hp) (by rw [List.length_map]; exact O.len)
theorem tableT_len {T : Tb} (O : TbOk T) : (tableT T).length ≤ 16777216 := by
  show (Builtin.Str.glued "\n" (["letters " ++ Txt.join "" (T.ls.map sgn), "manner " ++ T.m] ++ T.rs.map ruleT)).length ≤ 16777216
  rw [StrLaws.glued_eq_join]
  exact Nat.le_trans (StrLaws.join_length_le _ _) (tableT_sum O)
theorem ok_table_text (F : DefAt K "table_text" 49 f fd) (hm : mg "table_text" = some (.ref f)) (c48 : CRuleT P w K mg base) : CTableT P w K mg base := by
  refine cal_of F hm sc49 (fun kV doc pm an cdv ct us hl => ?_) (fun _ => rfl) fun i cdv A outer s H E hr => ?_
  · match us, hl with
    | [a], _ => rfl
  · obtain ⟨T, O⟩ := i
    have hm1 : T.m.length ≤ 11 := manners_len _ O.m
    have hll : ((T.ls.map sgn).map (·.length)).sum + (T.ls.map sgn).length * (Str.length "") ≤ 26 := by
      have h1 := sum_le (fun x : Str => x.length) 1 (T.ls.map sgn) (fun x hx => by
        obtain ⟨c, _, rfl⟩ := List.mem_map.mp hx
        exact Nat.le_refl _)
      have h2 := O.ls.len
      rw [List.length_map] at h1 ⊢
      show _ + T.ls.length * 0 ≤ 26
      omega
    have hjl : (Txt.join "" (T.ls.map sgn)).length ≤ 26 := by
      show (Builtin.Str.glued "" (T.ls.map sgn)).length ≤ 26
      rw [StrLaws.glued_eq_join]
      exact Nat.le_trans (StrLaws.join_length_le _ _) hll
    have hrl : ∀ p ∈ T.rs, (ruleT p).length ≤ 2006 := fun p hp => ruleT_len (O.rs p hp).l.len (O.rs p hp).r.len
    have hlr : (T.rs.map pairD).length = T.rs.length := List.length_map ..
    refine ts_cons (ts_asg (vs := [1, 2, 3]) (te_var 0 (T := tyD K (tbD T))) (tg_tripD 1 2 3 rfl sc49.nd (by decide) (by decide) (by decide)) ?_)
    refine ts_cons (ts_set 4 (te_lst (ds := [.str ("letters " ++ Txt.join "" (T.ls.map sgn)), .str ("manner " ++ T.m)]) (ta_cons (te_addS te_str (te_joinT te_str (te_var 1 (T := tyD K (letD T.ls))) (Nat.le_trans hll (by decide))) ?_) (ta_cons (te_addS te_str (te_var 3) ?_) ta_nil))) ?_ sc49.nd)
    · show 8 + _ ≤ 1000000
      omega
    · show 7 + _ ≤ 1000000
      omega
    · refine ts_one (ts_ret (te_joinL (ys := ["letters " ++ Txt.join "" (T.ls.map sgn), "manner " ++ T.m] ++ T.rs.map ruleT) te_str ?_ ?_))
      · refine te_lstE (ta_starL (te_var 4) (ta_starL (ds := (T.rs.map ruleT).map .str) ?_ ta_nil)) ?_ ?_
        · refine te_lcD (n := (T.rs.map pairD).length) (item := itD K (T.rs.map pairD)) (p := fun _ => true) (el := fun j => .str (ruleT (T.rs.getD j ("", "")))) (nxt := fun j => _) [("rule", 5)] rfl sc49.nd (ti_tup (te_var 2 (T := tyD K (rulesD T.rs)))) (by rw [hlr]; exact Nat.le_trans O.len (by decide)) (blkOk_by (N := ["table", "letters", "rules", "manner", "heads", "rule"]) (sc := scopeAt 49) (by decide +kernel))
            (lcok (fun j hj s' H' C cl fp => tg_name 5 sc49.nd (by decide)) (fun j hj s' H' C cl fp => ?_)) ?_
          · rw [hlr] at hj
            have e : T.rs.getD j ("", "") = T.rs[j] := by
              rw [List.getD_eq_getElem?_getD, List.getElem?_eq_getElem hj]
              rfl
            rw [e]
            have hp := O.rs _ (List.getElem_mem hj)
            exact te_fn (i := (Subtype.mk T.rs[j] ⟨hp.l.len, hp.r.len⟩ : { p : Rule // p.1.length ≤ 1000 ∧ p.2.length ≤ 1000 })) c48 hr (ta_one (te_d (te_var 5) (getD_map pairD .none T.rs j hj)) rfl)
          · rw [hlr, List.map_map]
            exact took_map (fun p => PyData.str (ruleT p)) ("", "") T.rs (fun _ => true) (fun j => .str (ruleT (T.rs.getD j ("", "")))) (fun _ _ => rfl) (fun _ _ => rfl)
        · simp
        · simp only [List.length_map, List.length_append, List.length_cons, List.length_nil]
          have := O.len
          omega
      · exact tableT_sum O
end
end K14
/-! LC: mirrored. -/
namespace K14
open PySem PySem.Spec PyProof.Rows L2
def mirM (m : Str) : Str := if m = "ranked" then "rightranked" else if m = "rightranked" then "ranked" else if m = "leftmost" then "rightmost" else "leftmost"
def mirR (p : Rule) : Rule := (revS p.2, revS p.1)
def mirT (T : Tb) : Tb := ⟨T.ls, T.rs.map mirR, mirM T.m⟩
/-- the module's table of manners -/
structure Mir (K : PySem.W.Frag) (w : World) (mg : Str → Option Value) : Prop where
  ex : ∃ d es n, mg "MIRRORS" = some (.ref d) ∧ KDict K w d es n ∧ ∀ m ∈ manners, m ≠ "once" → ∃ t, PySem.W.nsIn K d m = some (some (.str (mirM m) t))
section
variable {X : Cx} {a b : Expr} {ρ : Rho} {pos p : Pos} {m : Str}
theorem te_inMir (M : Mir X.K X.w X.mg) (ha : PE X a (tT ρ (dS X m))) (hm : m ∈ manners) (ho : m ≠ "once") (hg : Gl X "MIRRORS" := by rfl) : PE X (.Compare a [.In] [.Name "MIRRORS" p] pos) (tT ρ (dB X true)) := by
  obtain ⟨d, es, n, h1, h2, h3⟩ := M.ex
  obtain ⟨t, h4⟩ := h3 m hm ho
  exact te_cmp (op_in_kd h2) ha (te_glob (T := tyV (.ref d)) (v := .ref d) h1 rfl (fun _ => rfl) hg) (fun x y H Q hx hy k => ⟨m, _, Dp.str_ hx, hy, h4, k _ H (Gr.refl H) (.bl _)⟩) rfl
theorem te_ixMir (M : Mir X.K X.w X.mg) (ha : PE X a (tT ρ (dS X m))) (hm : m ∈ manners) (ho : m ≠ "once") (hg : Gl X "MIRRORS" := by rfl) (hs : PlainIx a := by exact fun _ _ => rfl) : PE X (.Subscript (.Name "MIRRORS" p) a pos) (tT ρ (dS X (mirM m))) := by
  obtain ⟨d, es, n, h1, h2, h3⟩ := M.ex
  obtain ⟨t, h4⟩ := h3 m hm ho
  exact te_ix ix_kdict (te_glob (T := tyV (.ref d)) (v := .ref d) h1 rfl (fun _ => rfl) hg) ha (fun x y H Q hx hy k => ⟨d, m, .str (mirM m), hx, Dp.str_ hy, ⟨es, n, _, h2.at_, h2.lit, h4, ⟨t, rfl⟩⟩, k _ H (Gr.refl H) (.str _)⟩) hs
end
section
variable {P : Program} {w : World} {K : PySem.W.Frag} {mg : Str → Option Value} {base : Heap} {f : Addr} {fd : FuncData}
structure MiIx where
  T : Tb
  O : TbOk T
  o : T.m ≠ "once"
abbrev CMirrored (P : Program) (w : World) (K : PySem.W.Frag) (mg : Str → Option Value) (base : Heap) : Prop := Cal P w K mg base 2 "mirrored" (fun i : MiIx => [tyD K (tbD i.T)]) (fun i => tyD K (tbD (mirT i.T)))
theorem sc46 : FnScope ["table", "letters", "rules", "manner", "left", "right"] ["table"] (scopeAt 46) := ⟨rfl, rfl, rfl, by decide +kernel, rfl, by decide +kernel, by decide +kernel⟩
theorem ok_mirrored (F : DefAt K "mirrored" 46 f fd) (hm : mg "mirrored" = some (.ref f)) (B : Free mg) (M : Mir K w mg) (c33 : CUse P w K mg base) : CMirrored P w K mg base := by
  refine cal_of F hm sc46 (fun kV doc pm an cdv ct us hl => ?_) (fun _ => rfl) fun i cdv A outer s H E hr => ?_
  · match us, hl with
    | [a], _ => rfl
  · obtain ⟨T, O, ho⟩ := i
    have hlr : (T.rs.map pairD).length = T.rs.length := List.length_map ..
    refine ts_cons (ts_asg (vs := [1, 2, 3]) (te_var 0 (T := tyD K (tbD T))) (tg_tripD 1 2 3 rfl sc46.nd (by decide) (by decide) (by decide)) ?_)
    refine ts_cons (ts_expr (te_fn (i := ("manner" : Str)) c33 hr (ta_cons (te_inMir M (te_var 3) O.m ho) (ta_one te_str rfl))) ?_)
    refine ts_one (ts_ret (te_tup (ds := [letD T.ls, rulesD (T.rs.map mirR), .str (mirM T.m)]) (ta_cons (te_var 1) (ta_cons (te_tupleL (ds := (T.rs.map mirR).map pairD) B.tuple ?_) (ta_cons (te_ixMir M (te_var 3) O.m ho) ta_nil)))))
    refine te_lcL (n := T.rs.length) (item := fun j => tyD K (pairD (T.rs.getD j ("", "")))) (p := fun _ => true) (el := fun j => pairD (mirR (T.rs.getD j ("", "")))) (nxt := fun j => _) [("left", 4), ("right", 5)] rfl sc46.nd ?_ (Nat.le_trans O.len (by decide)) (blkOk_by (N := ["table", "letters", "rules", "manner", "left", "right"]) (sc := scopeAt 46) (by decide +kernel))
      (lcok (fun j hj s' H' C cl fp => tg_pairD 4 5 rfl sc46.nd (by decide) (by decide)) (fun j hj s' H' C cl fp => ?_)) ?_
    · refine pi_congr (ti_tup (te_var 2 (T := tyD K (rulesD T.rs)))) hlr fun j hj => ?_
      rw [hlr] at hj
      show tyD K ((T.rs.map pairD).getD j .none) = _
      rw [getD_map pairD .none T.rs j hj, List.getD_eq_getElem?_getD, List.getElem?_eq_getElem hj]
      rfl
    · have hmem : T.rs.getD j ("", "") ∈ T.rs := by
        rw [List.getD_eq_getElem?_getD, List.getElem?_eq_getElem hj]
        exact List.getElem_mem hj
      have hp := O.rs _ hmem
      exact te_tup (ds := [.str (revS (T.rs.getD j ("", "")).2), .str (revS (T.rs.getD j ("", "")).1)]) (ta_cons (te_revS (te_var 5) (Nat.le_trans hp.r.len (by decide))) (ta_cons (te_revS (te_var 4) (Nat.le_trans hp.l.len (by decide))) ta_nil))
    · rw [List.map_map]
      exact took_map (fun p => pairD (mirR p)) ("", "") T.rs (fun _ => true) (fun j => pairD (mirR (T.rs.getD j ("", "")))) (fun _ _ => rfl) (fun _ _ => rfl)
end
end K14
/-! LD: instances of own classes by types: their fields, their __init__. -/
namespace K14
open PySem PySem.Spec PyProof.Rows L2

/-! ### fields -/
def Flds (G : Hp) : List (Str × V) → List (Str × Ty) → Prop
  | [], [] => True
  | (f, v) :: fs, (g, t) :: ts => f = g ∧ t.p G v ∧ Flds G fs ts
  | _, _ => False
theorem Flds.mono {G G' : Hp} (e : Gr G G') : ∀ {fs : List (Str × V)} {ts : List (Str × Ty)}, Flds G fs ts → Flds G' fs ts
  | [], [], _ => True.intro
  | (f, v) :: fs, (g, t) :: ts, h => ⟨h.1, t.st e h.2.1, Flds.mono e h.2.2⟩
theorem Flds.len {G : Hp} : ∀ {fs : List (Str × V)} {ts : List (Str × Ty)}, Flds G fs ts → fs.length = ts.length
  | [], [], _ => rfl
  | (f, v) :: fs, (g, t) :: ts, h => congrArg (· + 1) (Flds.len h.2.2)
theorem Flds.get {G : Hp} {f : Str} {T : Ty} : ∀ {fs : List (Str × V)} {ts : List (Str × Ty)}, Flds G fs ts → ts.lookup f = some T → ∃ v, fs.lookup f = some v ∧ T.p G v
  | [], [], _, e => by cases e
  | (g, v) :: fs, (g', t) :: ts, h, e => by
    obtain ⟨h1, h2, h3⟩ := h
    subst h1
    by_cases hg : f = g
    · have hb : (f == g) = true := beq_iff_eq.mpr hg
      simp only [List.lookup, hb] at e ⊢
      cases e
      exact ⟨v, rfl, h2⟩
    · have hb : (f == g) = false := beq_eq_false_iff_ne.mpr hg
      simp only [List.lookup, hb] at e ⊢
      exact Flds.get h3 e
theorem Flds.no {G : Hp} {f : Str} : ∀ {fs : List (Str × V)} {ts : List (Str × Ty)}, Flds G fs ts → ts.lookup f = none → fs.lookup f = none
  | [], [], _, _ => rfl
  | (g, v) :: fs, (g', t) :: ts, h, e => by
    obtain ⟨h1, h2, h3⟩ := h
    subst h1
    by_cases hg : f = g
    · have hb : (f == g) = true := beq_iff_eq.mpr hg
      simp only [List.lookup, hb] at e
      cases e
    · have hb : (f == g) = false := beq_eq_false_iff_ne.mpr hg
      simp only [List.lookup, hb] at e ⊢
      exact Flds.no h3 e
def putT (f : Str) (T : Ty) : List (Str × Ty) → List (Str × Ty)
  | [] => [(f, T)]
  | (g, x) :: r => if g = f then (g, T) :: r else (g, x) :: putT f T r
theorem Flds.put {G : Hp} {f : Str} {T : Ty} {v : V} (hv : T.p G v) : ∀ {fs : List (Str × V)} {ts : List (Str × Ty)}, Flds G fs ts → Flds G (putF f v fs) (putT f T ts)
  | [], [], _ => ⟨rfl, hv, True.intro⟩
  | (g, w) :: fs, (g', t) :: ts, h => by
    obtain ⟨h1, h2, h3⟩ := h
    subst h1
    unfold putF putT
    by_cases e : g = f
    · rw [if_pos e, if_pos e]
      exact ⟨rfl, hv, h3⟩
    · rw [if_neg e, if_neg e]
      exact ⟨rfl, h2, Flds.put hv h3⟩
theorem putT_len (f : Str) (T : Ty) : ∀ ts : List (Str × Ty), (putT f T ts).length ≤ ts.length + 1
  | [] => Nat.le_refl _
  | (g, x) :: r => by
    unfold putT
    by_cases e : g = f
    · rw [if_pos e]
      exact Nat.le_succ _
    · rw [if_neg e]
      exact Nat.succ_le_succ (putT_len f T r)
/-- an instance of one of these classes, its fields of these types (own_told may stand beside them) -/
def tyO (CC : Addr → Prop) (fts : List (Str × Ty)) : Ty := ⟨fun H v => ∃ a C dx fs fts', v = .ref a ∧ CC C ∧ H a = some (.ins C dx fs) ∧ Flds H fs fts' ∧ ∀ f : Str, f ≠ "own_told" → fts'.lookup f = fts.lookup f, fun e ⟨a, C, dx, fs, fts', h1, h2, h3, h4, h5⟩ => ⟨a, C, dx, fs, fts', h1, h2, e.keep a _ h3 True.intro, h4.mono e, h5⟩⟩
theorem tyO_le {CC CC' : Addr → Prop} {fts fts' : List (Str × Ty)} (h : ∀ C, CC C → CC' C) (hf : ∀ f : Str, f ≠ "own_told" → fts.lookup f = fts'.lookup f) : (tyO CC fts).le (tyO CC' fts') := fun H v ⟨a, C, dx, fs, ft, h1, h2, h3, h4, h5⟩ => ⟨a, C, dx, fs, ft, h1, h C h2, h3, h4, fun f hn => (h5 f hn).trans (hf f hn)⟩

/-! ### beside an instance that is being made -/
structure ISt (x C dx : Addr) (fts : List (Str × Ty)) (ρ : Rho) (σ : L2.St) (H : Hp) : Prop where
  at_ : ∃ fs, H x = some (.ins C dx fs) ∧ Flds (hide [x] H) fs fts
  env : EnvT (hide [x] H) σ ρ
/-- what is seen beside the instance stays so when it is hidden -/
def ThawI (T : Ty) : Prop := ∀ x C dx fs H v, H x = some (.ins C dx fs) → T.p H v → T.p (hide [x] H) v
mutual
theorem Dp.hid1 {K : PySem.W.Frag} {x C dx : Addr} {fs : List (Str × V)} {H : Hp} (own : H x = some (.ins C dx fs)) : ∀ (d : PyData) (v : V), Dp K H v d → Dp K (hide [x] H) v d
  | .none, _, h => by
    cases h
    exact .non
  | .bool b, _, h => by
    cases h
    exact .bl b
  | .int i, _, h => by
    cases h
    exact .int i
  | .str x, _, h => by
    cases h
    exact .str x
  | .list _, _, h => by
    cases h with
    | lst hs ha => exact .lst (by rw [hide_out (by rw [List.mem_singleton]; intro e; rw [e, own] at hs; cases hs)]; exact hs) (DpAll.hid1 own _ _ ha)
  | .tuple ds, _, h => by
    cases h with
    | tup hs ha =>
      obtain ⟨u, hu, hs⟩ := hs
      exact .tup ⟨u, hu, by rw [hide_out (by rw [List.mem_singleton]; intro e; rw [e, own] at hs; exact tupHO_ins (Option.some.inj hs).symm)]; exact hs⟩ (DpAll.hid1 own _ _ ha)
  | .dict _, _, h => by cases h
theorem DpAll.hid1 {K : PySem.W.Frag} {x C dx : Addr} {fs : List (Str × V)} {H : Hp} (own : H x = some (.ins C dx fs)) : ∀ (ds : List PyData) (vs : List V), DpAll K H vs ds → DpAll K (hide [x] H) vs ds
  | [], _, h => by
    cases h
    exact .nil
  | d :: ds, _, h => by
    cases h with
    | cons h1 h2 => exact .cons (Dp.hid1 own d _ h1) (DpAll.hid1 own ds _ h2)
end
theorem thI_D {K : PySem.W.Frag} {d : PyData} : ThawI (tyD K d) := fun x C dx fs H v own p => Dp.hid1 own d v p
theorem thI_V {x : V} : ThawI (tyV x) := fun _ _ _ _ _ _ _ h => h
theorem thI_any : ThawI tyAny := fun _ _ _ _ _ _ _ _ => True.intro
theorem thI_F {T : Ty} : True := True.intro
/-- all slots may be seen so -/
def ThawR : Rho → Prop
  | [] => True
  | none :: ρ => ThawR ρ
  | some T :: ρ => ThawI T ∧ ThawR ρ
theorem ThawR.env {x C dx : Addr} {fs : List (Str × V)} {H : Hp} (own : H x = some (.ins C dx fs)) : ∀ {ρ : Rho} {σ : L2.St}, ThawR ρ → EnvT H σ ρ → EnvT (hide [x] H) σ ρ
  | [], [], _, _ => True.intro
  | none :: ρ, v :: σ, h, g => ⟨True.intro, ThawR.env own (ρ := ρ) h g.2⟩
  | some T :: ρ, v :: σ, h, g => by
    obtain ⟨⟨y, h1, h2⟩, g2⟩ := g
    exact ⟨⟨y, h1, h.1 x C dx fs H y own h2⟩, ThawR.env own h.2 g2⟩
structure IEnds where
  nx : List (Str × Ty) → Rho → Prop
structure IMeets (x C dx : Addr) (D : IEnds) (D0 : Ends) (H : Hp) : Prop where
  nx : ∀ fts ρ' σ' H', D.nx fts ρ' → ISt x C dx fts ρ' σ' H' → Gr (hide [x] H) (hide [x] H') → D0.nx σ' H'
theorem IMeets.mono {x C dx : Addr} {D : IEnds} {D0 : Ends} {H H1 : Hp} (m : IMeets x C dx D D0 H) (e : Gr (hide [x] H) (hide [x] H1)) : IMeets x C dx D D0 H1 := ⟨fun a b c d p q r => m.nx a b c d p q (e.trans r)⟩
def iS (x C dx : Addr) (fts : List (Str × Ty)) (ρ : Rho) (D : IEnds) : TS := fun D0 σ H => ISt x C dx fts ρ σ H ∧ IMeets x C dx D D0 H
theorem ISt.plain {x C dx : Addr} {fts : List (Str × Ty)} {ρ : Rho} {σ : L2.St} {H : Hp} (h : ISt x C dx fts ρ σ H) : Plain [x] H := by
  obtain ⟨fs, h1, _⟩ := h.at_
  exact .ins h1
theorem ISt.gr {x C dx : Addr} {fts : List (Str × Ty)} {ρ ρ' : Rho} {σ σ' : L2.St} {H H' : Hp} (h : ISt x C dx fts ρ σ H) (e : Gr H H') (hE : EnvT H' σ' ρ') (t : ThawR ρ') : ISt x C dx fts ρ' σ' H' := by
  obtain ⟨fs, h1, h2⟩ := h.at_
  have h3 := e.keep x _ h1 True.intro
  exact ⟨⟨fs, h3, h2.mono (e.hide (.ins h1))⟩, t.env h3 hE⟩
section
variable {X : Cx} {x C dx : Addr} {fts : List (Str × Ty)} {ρ ρ' : Rho} {T : Ty} {e : Expr} {D : IEnds} {st : Stmt} {rest : List Stmt} {pos : Pos}
theorem is_nil (h : D.nx fts ρ) : PSs X [] (iS x C dx fts ρ D) := pss_weak pss_nil fun D0 σ H q => q.2.nx fts ρ σ H h q.1 (Gr.refl _)
theorem is_cons (h : PS X st (iS x C dx fts ρ { nx := fun fts' ρ' => PSs X rest (iS x C dx fts' ρ' D) })) : PSs X (st :: rest) (iS x C dx fts ρ D) :=
  pss_weak (pss_cons h (pss_some (P := fun z : List (Str × Ty) × Rho => PSs X rest (iS x C dx z.1 z.2 D)) (t := fun z => iS x C dx z.1 z.2 D) fun _ p => p)) fun D0 σ H q =>
    ⟨q.1, ⟨fun t r s h a b c => ⟨(t, r), a, b, q.2.mono c⟩⟩⟩
theorem is_one (h : PS X st (iS x C dx fts ρ D)) : PSs X [st] (iS x C dx fts ρ D) := pss_one h
/-- a statement that does not touch the instance -/
theorem is_frame (h : PS X st (tS ρ { nx := fun ρ' => ThawR ρ' ∧ D.nx fts ρ', rt := ⟨fun _ _ => False, fun _ h => h⟩ })) : PS X st (iS x C dx fts ρ D) := ps_weak h fun D0 σ H q =>
  ⟨q.1.env.mono (.same hide_same), ⟨fun r s h a b c => q.2.nx fts r s h a.2 (q.1.gr c b a.1) (c.hide q.1.plain), fun v h c a => a.elim, fun _ _ _ a => a.elim, fun _ _ _ a => a.elim⟩⟩
/-- self.f = e -/
theorem is_fld {f y : Str} {p p' : Pos} (c : Cls X.K C) (n : NoAttr X.K C f) (he : PE X e (tT ρ T)) (hT : ThawI T) (h : D.nx (putT f T fts) ρ) (hl : fts.length < 900) (i : Nat) (hi : ρ[i]? = some (some (tyV (.ref x))) := by rfl) (hN : X.N[i]? = some y := by rfl)
    (hv : Vis X.env.scope y := by first | exact Or.inl rfl | exact Or.inr (Or.inl rfl) | exact Or.inr (Or.inr rfl)) (hd : (y == ("__debug__" : Str)) = false := by decide) (hcd : (y == ("__classdict__" : Str)) = false := by decide)
    (hs : swapsWith e (some (.Attribute (.Name y p) f p')) pos.line X.env = pure false := by rfl) : PS X (.Assign [.Attribute (.Name y p) f p'] e pos) (iS x C dx fts ρ D) :=
  ps_weak (ps_fld (pe_var hN hv hd hcd) he hs) fun D0 σ H q => ⟨q.1.env.mono (.same hide_same), fun v H1 g hv => by
    obtain ⟨fs, h1, h2⟩ := q.1.at_
    have h3 := g.keep x _ h1 True.intro
    obtain ⟨w, g1, g2⟩ := q.1.env.get hi
    have g2 : w = .ref x := g2
    subst g2
    have e1 : hide [x] (upd H1 x (.ins C dx (putF f v fs))) = hide [x] H1 := hide_upd (List.mem_singleton.mpr rfl)
    refine ⟨_, g1, x, C, dx, fs, rfl, h3, c, n, by rw [h2.len]; omega, q.2.nx _ ρ σ _ h ⟨⟨_, upd_same, ?_⟩, ?_⟩ ?_⟩
    · rw [e1]
      exact Flds.put (hT x C dx fs H1 v h3 hv) (h2.mono (g.hide (.ins h1)))
    · rw [e1]
      exact q.1.env.mono (g.hide (.ins h1))
    · rw [e1]
      exact g.hide (.ins h1)⟩
end
/-! ### the promise of an __init__ -/
def spI {ι : Type} (CC : Addr → Prop) (A : ι → List Ty) (R : ι → List (Str × Ty)) : Sp := fun vs H Q _ => ∃ i x C dx ws, vs = .ref x :: ws ∧ CC C ∧ H x = some (.ins C dx []) ∧ AllT (hide [x] H) ws (A i) ∧
  ∀ H', Gr (hide [x] H) (hide [x] H') → (∃ fs, H' x = some (.ins C dx fs) ∧ Flds (hide [x] H') fs (R i)) → Q .non H'
section
variable {P : Program} {w : World} {K : PySem.W.Frag} {mg : Str → Option Value} {base : Heap} {nm qual : Str} {params : Arguments} {body : List Stmt} {scope : Scope} {dvs : List V} {kws : List (Str × V)} {f : Addr} {fd : FuncData}
theorem fn_I {ι : Type} {CC : Addr → Prop} {Ai : ι → List Ty} {Ri : ι → List (Str × Ty)} {N ps : List Str} {k : Nat} (F : FunD K nm qual params body scope dvs kws f fd) (S : FnScope N ps scope) (hA : ∀ i, (Ai i).length + 1 = ps.length)
    (hb : ∀ (i : ι) (x C dx : Addr) (cdv : Value) (A : Around) (outer : List Env) (s : Shared) (H : Hp) (E : XK), CC C → Room k (A.deeper (envOfC qual scope s.heap.objs.size f cdv)) →
      PSs (cxOf CX0 P w K mg base N qual scope f cdv A outer s H E).nox body (iS x C dx [] (startR N.length (tyV (.ref x) :: Ai i)) { nx := fun fts _ => fts = Ri i })) : FnOk P w K mg base CX0 (k + 1) f fd ps (spI CC Ai Ri) := by
  refine F.ok S (fun vs H Q E ⟨i, x, C, dx, ws, e, _, _, hv, _⟩ => by rw [e, List.length_cons, hv.length, hA]) fun cdv A outer s H vs Q E hr ⟨i, x, C, dx, ws, e, hC, h1, hv, q⟩ => ?_
  subst e
  refine ⟨_, PSs.nox (hb i x C dx cdv A outer s H E hC hr), ⟨⟨[], h1, True.intro⟩, envT_start (vs := .ref x :: ws) (ts := tyV (.ref x) :: Ai i) ⟨rfl, hv⟩⟩, ⟨fun fts ρ' σ' H' a b c => ?_⟩⟩
  subst a
  exact q H' c b.at_
end
end K14
/-! LE: instances by types: made, their methods called, their fields and properties read; Row. -/
namespace K14
open PySem PySem.Spec PyProof.Rows L2
section
variable {X : Cx} {ρ : Rho} {pos p apos : Pos} {e o : Expr} {es : List Expr} {T : Ty} {k n : Nat} {C f : Addr} {fd : FuncData} {ps ks : List Str} {ι : Type} {CC : Addr → Prop} {A : ι → List Ty} {R : ι → List (Str × Ty)} {Rt : ι → Ty} {x m : Str} {fts : List (Str × Ty)} {Ts Ds : List Ty} {dvs : List V} {ds : List Value}
/-- self.f -/
theorem te_fld (ho : PE X o (tT ρ (tyO CC fts))) (hC : ∀ C, CC C → Cls X.K C ∧ NoAttr X.K C m) (hf : fts.lookup m = some T) (hb : attributeBase o m X.env (eval o X.env) = eval o X.env := by rfl) (ht : m ≠ "own_told" := by decide) : PE X (.Attribute o m pos) (tT ρ T) :=
  pe_weak (pe_fld ho hb) fun σ H Q q => ⟨q.1, fun v H1 e1 ⟨a, C, dx, fs, ft, h1, h2, h3, h4, h5⟩ => by
    obtain ⟨v, g1, g2⟩ := h4.get ((h5 m ht).trans hf)
    exact ⟨a, C, dx, fs, v, h1, h3, (hC C h2).1, (hC C h2).2, g1, q.2 v H1 e1 g2⟩⟩
theorem made_env {H : Hp} {y dx : Addr} (h1 : H y = none) (h2 : H dx = none) (hd : dx ≠ y) : hide [y] (upd (upd H dx (.own y)) y (.ins C dx [])) = upd H dx (.own y) := hide_new1 (by rw [upd_ne (Ne.symm hd)]; exact h1)
/-- C(e, ..) -/
theorem te_make {i : ι} (M : Mk X.K C f) (F : FnOk X.prog X.w X.K X.mg X.base CX0 k f fd ps (spI CC A R)) (hC : CC C) (hr : Room (k + 1) X.A) (hm : X.mg x = some (.ref C)) (hb : Binds X.K fd ps ds) (hd : Vals dvs ds) (ha : PA X (e :: es) (tTA ρ Ts)) (hdv : ∀ H, AllT H dvs Ds) (hi : A i = Ts ++ Ds) (hg : Gl X x := by rfl) (hdb : (x == ("__debug__" : Str)) = false := by decide)
    (he : starEach (e :: es) X.env = (false, eval e X.env) :: starEach es X.env := by rfl) (hpl : (backTo pos (starEach es X.env)).any (·.1) = false := by rfl) : PE X (.Call (.Name x p) (e :: es) [] pos) (tT ρ (tyO (fun C' => C' = C) (R i))) :=
  pe_weak (pe_make (E := E0) M F hr hg hm hb hd pass0 ha hdb he hpl) fun σ H Q q => ⟨q.1, fun vs H1 e1 hv y dx hy hdx hne => by
    have eh := made_env (C := C) hy hdx hne
    refine ⟨i, y, C, dx, vs ++ dvs, rfl, hC, upd_same, ?_, fun H' g ⟨fs, h1, h2⟩ => ⟨rfl, q.2 _ H' ?_ ⟨y, C, dx, fs, _, rfl, rfl, h1, h2.mono (.same hide_same), fun _ _ => rfl⟩⟩⟩
    · rw [eh, hi]
      exact (hv.app (hdv H1)).mono (Gr.new hdx)
    · rw [eh] at g
      exact (e1.trans (Gr.new hdx)).trans (g.trans (.same hide_same))⟩
/-- C(e, .., k = v, ..) -/
theorem te_makeK {i : ι} {kws : List Keyword} (M : Mk X.K C f) (F : FnOk X.prog X.w X.K X.mg X.base CX0 k f fd ps (spI CC A R)) (hC : CC C) (hr : Room (k + 1) X.A) (hm : X.mg x = some (.ref C)) (hb : KBn X.K fd ps (n + 1) ks (fun us ws => us ++ ws) (fun vs zs => vs ++ zs)) (ha : PA X (e :: es) (tTA ρ Ts)) (hn : Ts.length = n) (hkw : PK X kws (tTA ρ Ds)) (hmk : Ds.length = ks.length) (hi : A i = Ts ++ Ds)
    (hall : (backToKw pos (keywordEach kws X.env)).all (·.1.isSome) = true := by rfl) (hks : (backToKw pos (keywordEach kws X.env)).filterMap (·.1) = ks := by rfl) (hg : Gl X x := by rfl) (hdb : (x == ("__debug__" : Str)) = false := by decide)
    (he : starEach (e :: es) X.env = (false, eval e X.env) :: starEach es X.env := by rfl) (hpl : ((backTo pos (starEach (e :: es) X.env)).any (·.1) || (backToKw pos (keywordEach kws X.env)).any (·.1.isNone)) = false := by rfl) : PE X (.Call (.Name x p) (e :: es) kws pos) (tT ρ (tyO (fun C' => C' = C) (R i))) :=
  pe_weak (pe_makeN (E := E0) M F hr hg hm hb pass0 ha hkw hall hks hdb he hpl) fun σ H Q q => ⟨q.1, fun vs H1 e1 hv => ⟨q.1.mono e1, fun zs H2 e2 hz => ⟨by rw [hv.length, hn], by rw [hz.length, hmk], fun y dx hy hdx hne => by
    have eh := made_env (C := C) hy hdx hne
    refine ⟨i, y, C, dx, vs ++ zs, rfl, hC, upd_same, ?_, fun H' g ⟨fs, h1, h2⟩ => ⟨rfl, q.2 _ H' ?_ ⟨y, C, dx, fs, _, rfl, rfl, h1, h2.mono (.same hide_same), fun _ _ => rfl⟩⟩⟩
    · rw [eh, hi]
      exact ((hv.mono e2).app hz).mono (Gr.new hdx)
    · rw [eh] at g
      exact ((e1.trans e2).trans (Gr.new hdx)).trans (g.trans (.same hide_same))⟩⟩⟩
/-- a method of all these classes -/
structure MethF (K : PySem.W.Frag) (CC : Addr → Prop) (m : Str) (f : Addr) : Prop where
  at_ : ∀ C, CC C → Cls K C ∧ Meth K C m f
/-- o.m(e, ..) -/
theorem te_meth {i : ι} {pl : Sem Bool} (ho : PE X o (tT ρ (tyO CC fts))) (M : MethF X.K CC m f) (hno : fts.lookup m = none) (hnt : m ≠ "own_told") (F : FnOk X.prog X.w X.K X.mg X.base CX0 k f fd ps (spT A Rt)) (hr : Room k X.A) (hb : Binds X.K fd ps []) (ha : PA X (e :: es) (tTA ρ Ts)) (hi : A i = tyO CC fts :: Ts)
    (hst : starEach (e :: es) X.env = (false, eval e X.env) :: starEach es X.env := by rfl) (hpl : (backTo pos (starEach es X.env)).any (·.1) = false := by rfl)
    (ht : eval (.Call (.Attribute o m apos) (e :: es) [] pos) X.env = (do
      let ov ← eval o X.env
      standAt apos.atName
      let (f, first) ← holding [ov] (getMethod ov m pl)
      callWith pos f first (backTo pos (starEach (e :: es) X.env)) (backToKw pos (keywordEach [] X.env))) := by rfl) : PE X (.Call (.Attribute o m apos) (e :: es) [] pos) (tT ρ (Rt i)) := ⟨fun pins s σ H Q I q => by
  refine PySem.W.methodCall_KW (pl := pl) (thn (ho.run pins s σ H (fun v H1 => (tyO CC fts).p H1 v ∧ Gr H H1) I ⟨q.1, fun v H1 g p => ⟨p, g⟩⟩) fun u s1 ⟨v, H1, I1, rx, ⟨a, C, dx, fs, ft, ev, hC, h3, h4, h5⟩, e1⟩ => ?_) ht
  subst ev
  obtain rfl : u = Value.ref a := rx
  refine getmeth_ok I1 h3 (M.at_ C hC).1 (M.at_ C hC).2 (h4.no ((h5 m hnt).trans hno)) ?_
  refine PySem.W.callWith_K (first := [.ref a]) (h₀ := X.base) I1.ok.mod.kin (M.at_ C hC).2.kp (thn (ha.run pos pins s1 σ H1 (fun vs H2 => AllT H2 vs Ts ∧ Gr H1 H2) I1 ⟨q.1.mono e1, fun vs H2 g p => ⟨p, g⟩⟩) fun us s2 ⟨vs, H2, I2, r, hv, e2⟩ => ⟨I2.kIn, ?_⟩) hst hpl
  refine run_fn (E := E0) (us := .ref a :: us) (vs := .ref a :: vs) F hr hb .nil pass0 I2 (.cons rfl r) ⟨i, ?_, fun v H' g p => q.2 v H' ((e1.trans e2).trans g) p⟩
  rw [hi, List.append_nil]
  exact ⟨⟨a, C, dx, fs, ft, rfl, hC, e2.keep a _ h3 True.intro, h4.mono e2, h5⟩, hv⟩⟩
/-- o.m() -/
theorem te_meth0 {i : ι} {pl : Sem Bool} (ho : PE X o (tT ρ (tyO CC fts))) (M : MethF X.K CC m f) (hno : fts.lookup m = none) (hnt : m ≠ "own_told") (F : FnOk X.prog X.w X.K X.mg X.base CX0 k f fd ps (spT A Rt)) (hr : Room k X.A) (hb : Binds X.K fd ps []) (hi : A i = [tyO CC fts])
    (ht : eval (.Call (.Attribute o m apos) [] [] pos) X.env = (do
      let ov ← eval o X.env
      standAt apos.atName
      let (f, first) ← holding [ov] (getMethod ov m pl)
      callWith pos f first (backTo pos (starEach [] X.env)) (backToKw pos (keywordEach [] X.env))) := by rfl) : PE X (.Call (.Attribute o m apos) [] [] pos) (tT ρ (Rt i)) := ⟨fun pins s σ H Q I q => by
  refine PySem.W.methodCall_KW (pl := pl) (thn (ho.run pins s σ H (fun v H1 => (tyO CC fts).p H1 v ∧ Gr H H1) I ⟨q.1, fun v H1 g p => ⟨p, g⟩⟩) fun u s1 ⟨v, H1, I1, rx, ⟨a, C, dx, fs, ft, ev, hC, h3, h4, h5⟩, e1⟩ => ?_) ht
  subst ev
  obtain rfl : u = Value.ref a := rx
  refine getmeth_ok I1 h3 (M.at_ C hC).1 (M.at_ C hC).2 (h4.no ((h5 m hnt).trans hno)) ?_
  refine PySem.W.callWith_K0 (first := [.ref a]) I1.kIn (M.at_ C hC).2.kp (run_fn (E := E0) (us := [.ref a]) (vs := [.ref a]) F hr hb .nil pass0 I1 (.cons rfl .nil) ⟨i, ?_, fun v H' g p => q.2 v H' (e1.trans g) p⟩)
  rw [hi]
  exact ⟨⟨a, C, dx, fs, ft, rfl, hC, h3, h4, h5⟩, True.intro⟩⟩
/-- o.f, a property -/
theorem te_prop {i : ι} {pp : Addr} (ho : PE X o (tT ρ (tyO (fun C' => C' = C) fts))) (c : Cls X.K C) (hp : PropOf X.K C m pp f) (F : FnOk X.prog X.w X.K X.mg X.base CX0 k f fd ps (spT A Rt)) (hr : Room (k + 1) X.A) (hb : Binds X.K fd ps []) (hi : A i = [tyO (fun C' => C' = C) fts])
    (hab : attributeBase o m X.env (eval o X.env) = eval o X.env := by rfl) : PE X (.Attribute o m pos) (tT ρ (Rt i)) :=
  pe_weak (pe_prop (E := E0) ho c hp F hr hb .nil pass0 hab) fun σ H Q q => ⟨q.1, fun v H1 e1 ⟨a, C', dx, fs, ft, h1, h2, h3, h4, h5⟩ => by
    subst h2
    exact ⟨a, dx, fs, h1, h3, i, by rw [hi]; exact ⟨⟨a, C', dx, fs, ft, rfl, rfl, h3, h4, h5⟩, True.intro⟩, fun v H' g p => q.2 v H' (e1.trans g) p⟩⟩
end
/-! ### Row -/
/-- the statements of a class -/
def clsBody : Stmt → List Stmt
  | .ClassDef _ _ _ b _ _ _ _ _ _ _ => b
  | _ => []
/-- the j-th statement of the class at i -/
def memb (i j : Nat) : Stmt := (clsBody (top i)).getD j (.Pass ⟨0, 0, 0, 0⟩)
abbrev MethAt (K : PySem.W.Frag) (nm qual : Str) (i j : Nat) (kws : List (Str × V)) (f : Addr) (fd : FuncData) : Prop := FunD K nm qual (defArgs (memb i j)) (defBody (memb i j)) (defScope (memb i j)) [] kws f fd
section
variable {P : Program} {w : World} {K : PySem.W.Frag} {mg : Str → Option Value} {base : Heap} {f C : Addr} {fd : FuncData}
abbrev rowF (K : PySem.W.Frag) (xs : List Str) : List (Str × Ty) := [("kept_pieces", tyD K (strsD xs)), ("kept_text", tyD K (.str (Txt.join "" xs))), ("kept_places", tyAny)]
abbrev tyRow (K : PySem.W.Frag) (C : Addr) (xs : List Str) : Ty := tyO (fun C' => C' = C) (rowF K xs)
structure RowC (K : PySem.W.Frag) (C : Addr) : Prop where
  cls : Cls K C
  n1 : NoAttr K C "kept_pieces"
  n2 : NoAttr K C "kept_text"
  n3 : NoAttr K C "kept_places"
theorem sc40i : FnScope ["self", "pieces", "k", "piece"] ["self", "pieces"] (defScope (memb 40 0)) := ⟨rfl, rfl, rfl, by decide +kernel, rfl, by decide +kernel, by decide +kernel⟩
theorem ok_row_init (F : MethAt K "__init__" "Row.__init__" 40 0 [] f fd) (R : RowC K C) (B : Free mg) (c33 : CUse P w K mg base) (c14 : Cal P w K mg base 2 "is_piece" (fun i : { z : Str // PieceOk z } => [tyD K (.str i.1)]) (fun _ => tyD K (.bool true))) (c36 : CBound P w K mg base) :
    FnOk P w K mg base CX0 3 f fd ["self", "pieces"] (spI (fun C' => C' = C) (fun i : { xs : List Str // RowOk xs } => [tyD K (strsD i.1)]) (fun i => rowF K i.1)) := by
  refine fn_I F sc40i (fun _ => rfl) fun i x C' dx cdv A outer s H E hC hr => ?_
  subst hC
  obtain ⟨xs, O⟩ := i
  have hl : (xs.map PyData.str).length = xs.length := List.length_map ..
  refine is_cons (is_frame (ts_expr (te_fn (i := ("pieces" : Str)) c33 (hr.mono (by decide)) (ta_cons (te_isi B.isinstance (te_var 1 (T := tyD K (strsD xs))) B.tuple PyProof.Rows.boot_tuple rfl) (ta_one te_str rfl))) ⟨⟨thI_V, thI_D, True.intro⟩, ?_⟩))
  let rho := fun (y z : Option PyData) => ([some (tyV (.ref x)), some (tyD K (strsD xs)), y.map (tyD K), z.map (tyD K)] : Rho)
  have thR : ∀ y z, ThawR (rho y z) := fun y z => by
    refine ⟨thI_V, thI_D, ?_⟩
    cases y <;> cases z
    · exact True.intro
    · exact ⟨thI_D, True.intro⟩
    · exact ⟨thI_D, True.intro⟩
    · exact ⟨thI_D, thI_D, True.intro⟩
  refine is_cons (is_frame (ts_for (n := (xs.map PyData.str).length) (item := fun j => tyD K (.tuple [.int (j : Nat), (xs.map PyData.str).getD j .none])) (vs := [2, 3]) (fun j ρ' => ∃ y z, ρ' = rho y z) (fun j ρ' => (ρ'.set 2 (some (tyD K (.int (j : Nat))))).set 3 (some (tyD K ((xs.map PyData.str).getD j .none))))
    PassesOwn.never rfl (ti_enumT B.enumerate (te_var 1 (T := tyD K (strsD xs)))) ⟨none, none, rfl⟩ (fun ρ' ⟨y, z, e⟩ => ?_) (fun j ρ' hj _ => tg_pairD 2 3 rfl sc40i.nd (by decide) (by decide)) fun j ρ' hj ⟨y, z, e⟩ => ?_))
  · subst e
    refine ⟨thR y z, ?_⟩
    refine is_cons (is_fld R.cls R.n1 (te_var 1 (T := tyD K (strsD xs))) thI_D ?_ (by decide) 0)
    refine is_cons (is_fld R.cls R.n2 (te_joinT te_str (te_var 1 (T := tyD K (strsD xs))) ?_) thI_D ?_ (Nat.lt_of_le_of_lt (putT_len _ _ _) (by decide)) 0)
    · have h := sum_le (fun x : Str => x.length) 1000 xs fun x hx => (O.each x hx).text.len
      have h2 := O.len
      have h3 : Str.length "" = 0 := rfl
      rw [h3]
      have h4 : xs.length * 1000 ≤ 1000 * 1000 := Nat.mul_le_mul_right _ h2
      have h5 : (xs.map (·.length)).sum = (xs.map fun x : Str => x.length).sum := rfl
      omega
    · refine is_one (is_fld R.cls R.n3 (te_fn (i := ⟨xs, O⟩) c36 (hr.mono (by decide)) (ta_one (te_var 1) rfl)) thI_any ?_ (Nat.lt_of_le_of_lt (Nat.le_trans (putT_len _ _ _) (Nat.succ_le_succ (putT_len _ _ _))) (by decide)) 0)
      rfl
  · subst e
    rw [hl] at hj
    have e := getD_map PyData.str .none xs j hj
    rw [e]
    exact ts_one (ts_if (k := false) (tt_not (c := true) (tt_fn (i := ⟨xs[j], O.each _ (List.getElem_mem hj)⟩) (c := true) c14 hr rfl (ta_one (te_var 3) rfl))) (fun h => nomatch h) fun _ => ts_nil ⟨some _, some _, rfl⟩)
end
end K14
/-! LF: Row's methods, Table's __init__, form, len, [], call, str. -/
namespace K14
open PySem PySem.Spec PyProof.Rows L2
section
variable {P : Program} {w : World} {K : PySem.W.Frag} {mg : Str → Option Value} {base : Heap} {f C : Addr} {fd : FuncData} {CC : Addr → Prop}
theorem methBinds {nm qual : Str} {i j : Nat} {ps : List Str} (F : MethAt K nm qual i j [] f fd) (h : ∀ (kV doc pm : Value) (an : Option Addr) (cdv ct : Value) (us : List Value), us.length = ps.length → bindArgs (PySem.W.fnOf nm qual (defArgs (memb i j)) (defBody (memb i j)) (defScope (memb i j)) .none kV doc pm an cdv ct) ⟨us, []⟩ = pure (ps.zip us)) : Binds K fd ps [] := F.bindsN h
theorem sc404 : FnScope ["self"] ["self"] (defScope (memb 40 4)) := ⟨rfl, rfl, rfl, by decide +kernel, rfl, by decide +kernel, by decide +kernel⟩
theorem sc405 : FnScope ["self"] ["self"] (defScope (memb 40 5)) := ⟨rfl, rfl, rfl, by decide +kernel, rfl, by decide +kernel, by decide +kernel⟩
theorem ok_row_text (F : MethAt K "text" "Row.text" 40 4 [] f fd) (R : RowC K C) : FnOk P w K mg base CX0 1 f fd ["self"] (spT (fun xs : List Str => [tyRow K C xs]) (fun xs => tyD K (.str (Txt.join "" xs)))) ∧ Binds K fd ["self"] [] := by
  refine ⟨fn_T F sc404 (fun _ => rfl) fun i cdv A outer s H E hr => ?_, methBinds F fun kV doc pm an cdv ct us hl => ?_⟩
  · exact ts_one (ts_ret (te_fld (te_var 0 (T := tyRow K C i)) (fun C' e => by subst e; exact ⟨R.cls, R.n2⟩) rfl))
  · match us, hl with
    | [a], _ => rfl
theorem ok_row_pieces (F : MethAt K "pieces" "Row.pieces" 40 5 [] f fd) (R : RowC K C) : FnOk P w K mg base CX0 1 f fd ["self"] (spT (fun xs : List Str => [tyRow K C xs]) (fun xs => tyD K (strsD xs))) ∧ Binds K fd ["self"] [] := by
  refine ⟨fn_T F sc405 (fun _ => rfl) fun i cdv A outer s H E hr => ?_, methBinds F fun kV doc pm an cdv ct us hl => ?_⟩
  · exact ts_one (ts_ret (te_fld (te_var 0 (T := tyRow K C i)) (fun C' e => by subst e; exact ⟨R.cls, R.n1⟩) rfl))
  · match us, hl with
    | [a], _ => rfl
/-! Table -/
abbrev tabF (K : PySem.W.Frag) (T : Tb) : List (Str × Ty) := [("own_form", tyD K (tbD T)), ("own_rules", tyD K (rulesD T.rs))]
abbrev tyTab (K : PySem.W.Frag) (CC : Addr → Prop) (T : Tb) : Ty := tyO CC (tabF K T)
structure TabC (K : PySem.W.Frag) (CC : Addr → Prop) : Prop where
  cls : ∀ C, CC C → Cls K C
  n1 : ∀ C, CC C → NoAttr K C "own_form"
  n2 : ∀ C, CC C → NoAttr K C "own_rules"
theorem sc52i : FnScope ["self", "letters", "rules", "manner", "form"] ["self", "letters", "rules", "manner"] (defScope (memb 52 0)) := ⟨rfl, rfl, rfl, by decide +kernel, rfl, by decide +kernel, by decide +kernel⟩
theorem ok_table_init {v0 : V} {kws : List (Str × V)} (F : FunD K "__init__" "Table.__init__" (defArgs (memb 52 0)) (defBody (memb 52 0)) (defScope (memb 52 0)) [v0] kws f fd) (R : TabC K CC) (c34 : CLets P w K mg base) :
    FnOk P w K mg base CX0 9 f fd ["self", "letters", "rules", "manner"] (spI CC (fun i : { T : Tb // TbOk T } => [tyD K (letD i.1.ls), tyD K (rulesD i.1.rs), tyD K (.str i.1.m)]) (fun i => tabF K i.1)) ∧ KBn K fd ["self", "letters", "rules", "manner"] 3 ["manner"] (fun us ws => us ++ ws) (fun vs zs => vs ++ zs) := by
  refine ⟨fn_I F sc52i (fun _ => rfl) fun i x C' dx cdv A outer s H E hC hr => ?_, ?_⟩
  · obtain ⟨T, O⟩ := i
    refine is_cons (is_frame (ts_set 4 (te_tup (ds := [letD T.ls, rulesD T.rs, .str T.m]) (ta_cons (te_var 1) (ta_cons (te_var 2) (ta_cons (te_var 3) ta_nil)))) ⟨⟨thI_V, thI_D, thI_D, thI_D, thI_D, True.intro⟩, ?_⟩ sc52i.nd))
    refine is_cons (is_frame (ts_expr (te_fn (i := (Subtype.mk T O : { T : Tb // TbOk T })) c34 (hr.mono (by decide)) (ta_one (te_var 4) rfl)) ⟨⟨thI_V, thI_D, thI_D, thI_D, thI_D, True.intro⟩, ?_⟩))
    refine is_cons (is_fld (R.cls _ hC) (R.n1 _ hC) (te_var 4 (T := tyD K (tbD T))) thI_D ?_ (by decide) 0)
    refine is_one (is_fld (R.cls _ hC) (R.n2 _ hC) (te_var 2 (T := tyD K (rulesD T.rs))) thI_D ?_ (Nat.lt_of_le_of_lt (putT_len _ _ _) (by decide)) 0)
    rfl
  · obtain ⟨its, h⟩ := F.kbindsD (ps := ["self", "letters", "rules", "manner"]) 3 ["manner"] (fun us _ ws => us ++ ws) (by simp) (fun r1 _ r3 => r1.append r3) (fun T kV doc pm an cdv ct us its ws h1 h2 h3 => by
      match us, h1, its, h2, ws, h3 with
      | [a, b, c], _, [d], _, [e], _ => exact ⟨_, rfl, rfl⟩)
    exact h
theorem sc527 : FnScope ["self"] ["self"] (defScope (memb 52 7)) := ⟨rfl, rfl, rfl, by decide +kernel, rfl, by decide +kernel, by decide +kernel⟩
theorem ok_tab_form (F : MethAt K "form" "Table.form" 52 7 [] f fd) (R : TabC K CC) : FnOk P w K mg base CX0 1 f fd ["self"] (spT (fun T : Tb => [tyTab K CC T]) (fun T => tyD K (tbD T))) ∧ Binds K fd ["self"] [] := by
  refine ⟨fn_T F sc527 (fun _ => rfl) fun i cdv A outer s H E hr => ?_, methBinds F fun kV doc pm an cdv ct us hl => ?_⟩
  · exact ts_one (ts_ret (te_fld (te_var 0 (T := tyTab K CC i)) (fun C' e => ⟨R.cls _ e, R.n1 _ e⟩) rfl))
  · match us, hl with
    | [a], _ => rfl
theorem sc52l : FnScope ["self"] ["self"] (defScope (memb 52 12)) := ⟨rfl, rfl, rfl, by decide +kernel, rfl, by decide +kernel, by decide +kernel⟩
theorem ok_tab_len (F : MethAt K "__len__" "Table.__len__" 52 12 [] f fd) (R : TabC K CC) (B : Free mg) : FnOk P w K mg base CX0 1 f fd ["self"] (spT (fun i : { T : Tb // TbOk T } => [tyTab K CC i.1]) (fun i => tyD K (.int (i.1.rs.length : Nat)))) ∧ Binds K fd ["self"] [] := by
  refine ⟨fn_T F sc52l (fun _ => rfl) fun i cdv A outer s H E hr => ?_, methBinds F fun kV doc pm an cdv ct us hl => ?_⟩
  · have hl : lenD (rulesD i.1.rs) = some i.1.rs.length := congrArg some (List.length_map ..)
    exact ts_one (ts_ret (te_len (d := rulesD i.1.rs) B.len (te_fld (te_var 0 (T := tyTab K CC i.1)) (fun C' e => ⟨R.cls _ e, R.n2 _ e⟩) rfl) hl (Nat.le_trans i.2.len (by decide))))
  · match us, hl with
    | [a], _ => rfl
theorem sc52g : FnScope ["self", "rank"] ["self", "rank"] (defScope (memb 52 9)) := ⟨rfl, rfl, rfl, by decide +kernel, rfl, by decide +kernel, by decide +kernel⟩
theorem ok_tab_item (F : MethAt K "__getitem__" "Table.__getitem__" 52 9 [] f fd) (R : TabC K CC) (B : Free mg) (c11 : CNum P w K mg base) (c33 : CUse P w K mg base) : FnOk P w K mg base CX0 3 f fd ["self", "rank"] (spT (fun i : WoIx => [tyTab K CC i.T, tyD K (.int (i.k : Nat))]) (fun i => tyD K (pairD (i.T.rs.getD i.k ("", ""))))) ∧ Binds K fd ["self", "rank"] [] := by
  refine ⟨fn_T F sc52g (fun _ => rfl) fun i cdv A outer s H E hr => ?_, methBinds F fun kV doc pm an cdv ct us hl => ?_⟩
  · obtain ⟨T, k, O, hk⟩ := i
    have hl : lenD (rulesD T.rs) = some T.rs.length := congrArg some (List.length_map ..)
    have fld : ∀ {X : Cx} {ρ : Rho} {e : Expr} {p : Pos}, X.K = K → PE X e (tT ρ (tyTab K CC T)) → attributeBase e "own_rules" X.env (eval e X.env) = eval e X.env → PE X (.Attribute e "own_rules" p) (tT ρ (tyD K (rulesD T.rs))) := fun hK he hb => by
      subst hK
      exact te_fld he (fun C' e => ⟨R.cls _ e, R.n2 _ e⟩) rfl hb
    refine ts_cons (ts_expr (te_fn (i := ("rank" : Str)) c33 (hr.mono (by decide)) (ta_cons (te_and (c := true) (d := true) (te_fn (i := (Subtype.mk (k : Int) (Int.natCast_nonneg _) : { i : Int // 0 ≤ i })) c11 hr (ta_one (te_var 1) rfl)) fun _ => te_one (te_b (te_lt (te_var 1) (te_len (d := rulesD T.rs) (n := T.rs.length) B.len (fld rfl (te_var 0) rfl) hl (Nat.le_trans O.len (by decide)))) (decide_eq_true (Int.ofNat_lt.mpr hk)))) (ta_one te_str rfl))) ?_)
    refine ts_one (ts_ret (te_ixT (ds := T.rs.map pairD) (fld rfl (te_var 0) rfl) (te_var 1) (atI_nat (j := k) ?_)))
    rw [List.getElem?_map, List.getElem?_eq_getElem hk, List.getD_eq_getElem?_getD, List.getElem?_eq_getElem hk]
    rfl
  · match us, hl with
    | [a, b], _ => rfl
structure ClIx where
  T : Tb
  z : Str
  O : TbOk T
  W : WordOf T.ls z
  R : RowOk (cutOf T z)
abbrev CCutOf (P : Program) (w : World) (K : PySem.W.Frag) (mg : Str → Option Value) (base : Heap) : Prop := Cal P w K mg base 10 "cut_of" (fun i : StIx => [tyD K (tbD i.T), tyD K (.str i.z)]) (fun i => tyD K (strsD (cutOf i.T i.z)))
theorem sc52c : FnScope ["self", "text"] ["self", "text"] (defScope (memb 52 8)) := ⟨rfl, rfl, rfl, by decide +kernel, rfl, by decide +kernel, by decide +kernel⟩
theorem ok_tab_call {Rw fi : Addr} {fdi : FuncData} (F : MethAt K "__call__" "Table.__call__" 52 8 [] f fd) (R : TabC K CC) (c19 : CTextOf P w K mg base) (c31 : CCutOf P w K mg base) (c33 : CUse P w K mg base) (M : Mk K Rw fi) (Fi : FnOk P w K mg base CX0 3 fi fdi ["self", "pieces"] (spI (fun C' => C' = Rw) (fun i : { xs : List Str // RowOk xs } => [tyD K (strsD i.1)]) (fun i => rowF K i.1))) (bi : Binds K fdi ["self", "pieces"] []) (hm : mg "Row" = some (.ref Rw)) :
    FnOk P w K mg base CX0 11 f fd ["self", "text"] (spT (fun i : ClIx => [tyTab K CC i.T, tyD K (.str i.z)]) (fun i => tyRow K Rw (cutOf i.T i.z))) ∧ Binds K fd ["self", "text"] [] := by
  refine ⟨fn_T F sc52c (fun _ => rfl) fun i cdv A outer s H E hr => ?_, methBinds F fun kV doc pm an cdv ct us hl => ?_⟩
  · obtain ⟨T, z, O, W, RO⟩ := i
    have fld : ∀ {X : Cx} {ρ : Rho} {e : Expr} {p : Pos}, X.K = K → PE X e (tT ρ (tyTab K CC T)) → attributeBase e "own_form" X.env (eval e X.env) = eval e X.env → PE X (.Attribute e "own_form" p) (tT ρ (tyD K (tbD T))) := fun hK he hb => by
      subst hK
      exact te_fld he (fun C' e => ⟨R.cls _ e, R.n1 _ e⟩) rfl hb
    refine ts_cons (ts_expr (te_fn (i := ("text" : Str)) c33 (hr.mono (by decide)) (ta_cons (te_fn (i := ⟨T.ls, z, O.ls, W⟩) c19 (hr.mono (by decide)) (ta_cons (te_var 1) (ta_one (te_ixT (d := letD T.ls) (fld rfl (te_var 0) rfl) te_int rfl) rfl))) (ta_one te_str rfl))) ?_)
    refine ts_one (ts_ret (te_make (Ds := []) (dvs := []) (i := (Subtype.mk (cutOf T z) RO : { xs : List Str // RowOk xs })) M Fi rfl (hr.mono (by decide)) hm bi .nil (ta_one (te_fn (i := ⟨T, z, O.nd, O.len, W.len⟩) c31 hr (ta_cons (fld rfl (te_var 0) rfl) (ta_one (te_var 1) rfl))) rfl) (fun _ => True.intro) rfl))
  · match us, hl with
    | [a, b], _ => rfl
theorem sc52s : FnScope ["self"] ["self"] (defScope (memb 52 17)) := ⟨rfl, rfl, rfl, by decide +kernel, rfl, by decide +kernel, by decide +kernel⟩
theorem ok_tab_str (F : MethAt K "__str__" "Table.__str__" 52 17 [] f fd) (R : TabC K CC) (c49 : CTableT P w K mg base) : FnOk P w K mg base CX0 3 f fd ["self"] (spT (fun i : { T : Tb // TbOk T } => [tyTab K CC i.1]) (fun i => tyD K (.str (tableT i.1)))) ∧ Binds K fd ["self"] [] := by
  refine ⟨fn_T F sc52s (fun _ => rfl) fun i cdv A outer s H E hr => ?_, methBinds F fun kV doc pm an cdv ct us hl => ?_⟩
  · exact ts_one (ts_ret (te_f1 (te_fmt (te_fn (i := i) c49 hr (ta_one (te_fld (te_var 0 (T := tyTab K CC i.1)) (fun C' e => ⟨R.cls _ e, R.n1 _ e⟩) rfl) rfl)) (tableT_len i.2))))
  · match us, hl with
    | [a], _ => rfl
end
end K14
/-! LG: super().__init__(..) in an own class's __init__: the body at its own activation. -/
namespace K14
open PySem PySem.Spec PyProof.Rows L2 NdefX
/-! ### statements at the activation of body -/
structure PAt (X : Cx) (body sts : List Stmt) (t : TS) : Prop where
  run : ∀ (pins : List (Addr × Obj)) (s : Shared) (σ : L2.St) (H : Hp) (D : Ends), Inv X pins σ H s → t D σ H → _root_.PySem.wpAt (model X.prog X.w) X.A (.func body X.env) (execs sts X.env) (SP X pins D) X.xe s
structure P1At (X : Cx) (body : List Stmt) (st : Stmt) (t : TS) : Prop where
  run : ∀ (pins : List (Addr × Obj)) (s : Shared) (σ : L2.St) (H : Hp) (D : Ends), Inv X pins σ H s → t D σ H → _root_.PySem.wpAt (model X.prog X.w) X.A (.func body X.env) (exec st X.env) (SP X pins D) X.xe s
section
variable {X : Cx} {body sts rest : List Stmt} {st : Stmt} {t u : TS}
theorem pat_of (h : PSs X sts t) : PAt X body sts t := ⟨fun pins s σ H D I q => _root_.PySem.wpAt_of_wpAny (h.run pins s σ H D I q)⟩
theorem p1at_of (h : PS X st t) : P1At X body st t := ⟨fun pins s σ H D I q => _root_.PySem.wpAt_of_wpAny (h.run pins s σ H D I q)⟩
theorem pat_weak {t' : TS} (h : PAt X body sts t) (w : ∀ D σ H, t' D σ H → t D σ H) : PAt X body sts t' := ⟨fun pins s σ H D I q => h.run pins s σ H D I (w D σ H q)⟩
theorem p1at_weak {t' : TS} (h : P1At X body st t) (w : ∀ D σ H, t' D σ H → t D σ H) : P1At X body st t' := ⟨fun pins s σ H D I q => h.run pins s σ H D I (w D σ H q)⟩
theorem pat_cons (h1 : P1At X body st t) (h2 : PAt X body rest u) : PAt X body (st :: rest) (fun D σ H => t { D with nx := fun σ' H' => u D σ' H' } σ H) := ⟨fun pins s σ H D I q => by
  refine ks_wpAt_execs_cons (_root_.PySem.wpAt_mono (h1.run pins s σ H _ I q) (fun f s' z => ?_) fun _ _ z => z)
  cases f with
  | next =>
    obtain ⟨σ', H', J, z⟩ := z
    exact h2.run pins s' σ' H' D J z
  | brk => exact z
  | cont => exact z
  | ret v => exact z⟩
theorem pat_some {ι : Sort _} {P : ι → Prop} {t : ι → TS} (h : ∀ i, P i → PAt X body sts (t i)) : PAt X body sts (fun D σ H => ∃ i, P i ∧ t i D σ H) := ⟨fun pins s σ H D0 I ⟨i, p, q⟩ => (h i p).run pins s σ H D0 I q⟩
variable {x C dx : Addr} {fts : List (Str × Ty)} {ρ : Rho} {D : IEnds}
theorem ia_nil (h : D.nx fts ρ) : PAt X body [] (iS x C dx fts ρ D) := pat_of (is_nil h)
theorem ia_cons (h : P1At X body st (iS x C dx fts ρ { nx := fun fts' ρ' => PAt X body rest (iS x C dx fts' ρ' D) })) : PAt X body (st :: rest) (iS x C dx fts ρ D) :=
  pat_weak (pat_cons h (pat_some (P := fun z : List (Str × Ty) × Rho => PAt X body rest (iS x C dx z.1 z.2 D)) (t := fun z => iS x C dx z.1 z.2 D) fun _ p => p)) fun D0 σ H q =>
    ⟨q.1, ⟨fun t r s h a b c => ⟨(t, r), a, b, q.2.mono c⟩⟩⟩
end
/-! ### super().__init__(..) -/
theorem wpAt_MethodCallK {M : Model} {A : Around} {E : Value → Shared → Prop} {s : Shared} {env : Env} {c : Code} {o : Expr} {name : Str} {apos pos : Pos} {args : List Expr} {kws : List Keyword} {pl : Sem Bool} {Q : Value → Shared → Prop}
    (h : _root_.PySem.wpAt M A c (attributeBase o name env (eval o env)) (fun ov s₁ => wpAny M A (getMethod ov name pl) (fun fx s₂ => wpAny M A (callWith pos fx.1 fx.2 (backTo pos (starEach args env)) (backToKw pos (keywordEach kws env))) Q E s₂) E s₁) E s)
    (he : eval (.Call (.Attribute o name apos) args kws pos) env = (do
      let ov ← attributeBase o name env (eval o env)
      standAt apos.atName
      let (f, first) ← holding [ov] (getMethod ov name pl)
      callWith pos f first (backTo pos (starEach args env)) (backToKw pos (keywordEach kws env)))) :
    _root_.PySem.wpAt M A c (eval (.Call (.Attribute o name apos) args kws pos) env) Q E s := by
  rw [he]
  refine _root_.PySem.wpAt_bind (_root_.PySem.wpAt_mono h (fun ov s₁ h₁ => _root_.PySem.wpAt_of_wpAny (wpAny_bind (wpAny_standAt (wpAny_bind (wpAny_holding (wpAny_mono h₁ (fun fx s₂ h₂ => ?_) fun _ _ x => x)))))) fun _ _ x => x)
  exact h₂
/-- what stands written of the def at f: its first parameter is slf, its code object's file is the program's -/
structure DefS (X : Cx) (f cda : Addr) (slf : Str) : Prop where
  fn : X.env.func = some f
  cd : X.env.code = .ref cda
  fd : ∃ oc od fd osl ar, X.K.lookup f = some ⟨oc, od, .func fd, osl⟩ ∧ (fd.params.posonlyargs ++ fd.params.args).head? = some ar ∧ ar.arg = slf
  file : ∃ ccl cdd vs ccs file tf, X.K.lookup cda = some ⟨ccl, cdd, .fields vs, ccs⟩ ∧ vs[2]? = some (.str file tf) ∧ ((X.prog.main.file : Str) == file) = true
  top : (X.prog.main.scope.names.lookup ("super" : Str)).isSome = false
  free : X.mg "super" = none
/-- the class at Dc, over classes of CC: its __init__ one above is the def at g -/
structure SupF (K : PySem.W.Frag) (CC : Addr → Prop) (Dc g : Addr) : Prop where
  cls : ∃ cd, PySem.W.clsIn K Dc = some cd
  sub : ∀ C, CC C → PySem.W.mroIn K C (.ref Dc) = some true
  opq : PySem.W.nsIn K PySem.cStatics "thirdparty.any" = some none
  mth : ∀ C, CC C → PySem.W.ks_superIn K C Dc "__init__" = some (some (.ref g))
  ty : PySem.W.typeIn K (.ref g) = some (.type "function")
  fi : PySem.W.fnIn K g = true
section
variable {X : Cx} {body : List Stmt} {e : Expr} {es : List Expr} {kws : List Keyword} {p0 p1 apos pos epos : Pos} {i j : Nat} {slf : Str} {f cda Dc g : Addr} {CC : Addr → Prop} {CX : CXT} {k n : Nat} {fd : FuncData} {ps ks : List Str} {sp : Sp} {ta tk : TA} {gu : List Value → List Value → List Value} {gV : List V → List V → List V} {E : XK}
/-- the super object, the bound method, at any heap -/
theorem super_obj {pins : List (Addr × Obj)} {s : Shared} {σ : L2.St} {H : Hp} {x C dx : Addr} {fs : List (Str × V)} {m : Str} {Q : Value × List Value → Shared → Prop} {pl : Sem Bool} {whole : Sem Value} (I : Inv X pins σ H s) (S : DefS X f cda slf) (F : SupF X.K CC Dc g) (hC : CC C) (hm : m = "__init__")
    (hx : H x = some (.ins C dx fs)) (hs1 : σ[i]? = some (some (.ref x))) (hs2 : σ[j]? = some (some (.ref Dc))) (hi : X.N[i]? = some slf) (hj : X.N[j]? = some "__class__") (hks : X.env.kindOf "super" = some .globalImplicit) (hkc : X.env.kindOf "__class__" = some .free) (hkx : X.env.kindOf slf = some .local)
    (h : ∀ q s', H q = none → Inv X pins σ (upd H q (.met g x)) s' → Q (.ref q, []) s') :
    _root_.PySem.wpAt (model X.prog X.w) X.A (.func body X.env) (attributeBase (.Call (.Name "super" p0) [] [] p1) m X.env whole) (fun ov s₁ => wpAny (model X.prog X.w) X.A (getMethod ov m pl) Q X.xe s₁) X.xe s := by
  subst hm
  obtain ⟨oc, od, fd, osl, ar, h1, h2, h3⟩ := S.fd
  obtain ⟨ccl, cdd, vs, ccs, file, tf, h4, h5, h6⟩ := S.file
  obtain ⟨cdD, hD⟩ := F.cls
  obtain ⟨oD, hD1, hD2⟩ : ∃ oD, s.heap.get? Dc = some oD ∧ oD.data = .cls cdD := by
    unfold PySem.W.clsIn at hD
    split at hD
    · rename_i c d cd' sl ho
      cases hD
      exact ⟨_, I.kIn _ _ ho, rfl⟩
    · cases hD
  obtain ⟨mA, O, _, _, _, _⟩ := ins_get I.hok hx
  obtain ⟨odI, J, _⟩ := O.look
  refine ks_wpAt_super_base (env := X.env) hks hkc (by decide) S.fn (I.kIn _ _ h1) rfl h2 S.cd (I.kIn _ _ h4) rfl h5 h6 S.top ?_
  obtain ⟨mb, b1, b2⟩ := I.mod.blt
  refine PySem.W.ks_loadName_global I.ok.kind hks (Calls.loadGlobal_builtin (by rw [I.ok.glob]; exact I.mod.glob.keeps I.bk) S.free (by rw [I.ok.blt]; exact b1.keeps I.bk) ((b2 "super" (by decide)).trans (by first | rfl | kernel_rfl)) ⟨rfl, ?_⟩)
  obtain ⟨ml, hn, hl⟩ := I.loc
  obtain ⟨u2, r2, l2⟩ := hl j "__class__" _ hj hs2 (.inr (.inr hkc))
  rcases l2 with ⟨hk, _⟩ | ⟨_, c, hc, hcell⟩
  · rw [hkc] at hk
    cases hk
  cases (show u2 = Value.ref Dc from r2)
  refine wpAny_loadName_free I.ok.kind hkc hc hcell ?_
  rw [h3]
  obtain ⟨u1, r1, l1⟩ := hl i slf _ hi hs1 (.inl hkx)
  rcases l1 with ⟨_, hm1⟩ | ⟨hk, _⟩
  · cases (show u1 = Value.ref x from r1)
    refine wpAny_loadName_local I.ok.kind hkx hn hm1 ?_
    refine ks_wpAny_isType_cls hD1 hD2 ⟨rfl, ?_⟩
    obtain ⟨hh, gg, d, tk, os⟩ := s
    refine ks_wpAny_call_super hD1 hD2 J.at_ J.cls (fun c e => ?_) (PySem.W.looks_mroIn I.kIn (F.sub C hC)) (fun h' e k => ?_)
    · have := J.no
      unfold PySem.W.notCls at this
      rw [e] at this
      exact Bool.noConfusion this
    · have I1 : Inv X pins σ H ⟨h', gg, d, tk, os⟩ := I.kept (t' := tk) k
      have hmm := F.mth C hC
      cases hc2 : PySem.W.clsIn X.K C with
      | none => unfold PySem.W.ks_superIn at hmm; rw [hc2] at hmm; cases hmm
      | some cd =>
        unfold PySem.W.ks_superIn at hmm
        rw [hc2] at hmm
        obtain ⟨of, hof, hofc⟩ : ∃ of, h'.get? g = some of ∧ of.cls = .type "function" := by
          have ht' : (X.K.lookup g).map (·.cls) = some (.type "function") := F.ty
          cases z : X.K.lookup g with
          | none => rw [z] at ht'; cases ht'
          | some of => rw [z] at ht'; exact ⟨of, I1.kIn _ _ z, Option.some.inj ht'⟩
        refine ks_wpAny_getMethod_super e (PySem.W.looks_opaque I1.kIn F.opq) (l₀ := cd.mro) ?_ rfl I1.kIn hmm hof hofc (PySem.W.ks_ne I.kIn J hc2) (by decide) ?_
        · exact fun A Q E s k q => wpAny_bind ((PySem.W.looks_clsIn I1.kIn hc2) A _ E s k (wpAny_pure q))
        · refine h h'.objs.size _ (I1.hok.fresh (Nat.le_refl _)) ?_
          exact I1.laid (t' := tk + 1) (a := h'.objs.size) (o := .met g x) (fun b u z => Heap.get?_push_of_some _ z) (Nat.le_refl _)
            (show (h'.push (PySem.W.methodObj (.ref g) (.ref x))).get? h'.objs.size = some (PySem.W.methodObj (.ref g) (.ref x)) from Heap.get?_push_size h' rfl)
  · have hk : X.env.kindOf slf = some .cell ∨ X.env.kindOf slf = some .free := hk
    rw [hkx] at hk
    rcases hk with hk | hk <;> cases hk
/-- super().__init__(e, .., k = v, ..) -/
def tSup (CC : Addr → Prop) (g : Addr) (i j : Nat) (Dc : Addr) (n m : Nat) (sp : Sp) (gV : List V → List V → List V) (E : XK) (ta tk : TA) : TS := fun D σ H => ∃ x C dx fs, CC C ∧ H x = some (.ins C dx fs) ∧ σ[i]? = some (some (.ref x)) ∧ σ[j]? = some (some (.ref Dc)) ∧
  ∀ q, H q = none → ta σ (upd H q (.met g x)) fun vs H1 => tk σ H1 fun zs H2 => H2 q = some (.met g x) ∧ vs.length = n ∧ zs.length = m ∧ sp (gV (.ref x :: vs) zs) H2 (fun _ H3 => D.nx σ H3) E
theorem p1at_super {pl : Sem Bool} (S : DefS X f cda slf) (F : SupF X.K CC Dc g) (Fn : FnOk X.prog X.w X.K X.mg X.base CX k g fd ps sp) (hr : Room k X.A) (hb : KBn X.K fd ps (n + 1) ks gu gV) (hpass : Passes CX X E) (ha : PA X (e :: es) ta) (hkw : PK X kws tk) (hi : X.N[i]? = some slf) (hj : X.N[j]? = some "__class__")
    (hks0 : X.env.kindOf "super" = some .globalImplicit) (hkc : X.env.kindOf "__class__" = some .free) (hkx : X.env.kindOf slf = some .local) (hall : (backToKw pos (keywordEach kws X.env)).all (·.1.isSome) = true) (hks : (backToKw pos (keywordEach kws X.env)).filterMap (·.1) = ks)
    (he : starEach (e :: es) X.env = (false, eval e X.env) :: starEach es X.env) (hpl : ((backTo pos (starEach (e :: es) X.env)).any (·.1) || (backToKw pos (keywordEach kws X.env)).any (·.1.isNone)) = false) (hit : interactive X.env = false) (hsw : swapsWith (.Call (.Attribute (.Call (.Name "super" p0) [] [] p1) "__init__" apos) (e :: es) kws pos) none epos.line X.env = pure false)
    (ht : eval (.Call (.Attribute (.Call (.Name "super" p0) [] [] p1) "__init__" apos) (e :: es) kws pos) X.env = (do
      let ov ← attributeBase (.Call (.Name "super" p0) [] [] p1) "__init__" X.env (eval (.Call (.Name "super" p0) [] [] p1) X.env)
      standAt apos.atName
      let (f, first) ← holding [ov] (getMethod ov "__init__" pl)
      callWith pos f first (backTo pos (starEach (e :: es) X.env)) (backToKw pos (keywordEach kws X.env)))) :
    P1At X body (.Expr (.Call (.Attribute (.Call (.Name "super" p0) [] [] p1) "__init__" apos) (e :: es) kws pos) epos) (tSup CC g i j Dc n ks.length sp gV E ta tk) := ⟨fun pins s σ H D I ⟨x, C, dx, fs, hC, hx, hs1, hs2, q⟩ => by
  refine ks_wpAt_Expr_any (wpAt_MethodCallK (pl := pl) (super_obj (m := "__init__") I S F hC rfl hx hs1 hs2 hi hj hks0 hkc hkx fun p s1 hp I1 => ?_) ht) hit hsw
  have q1 := q p hp
  refine callwith_met (X := X) (first := []) hpl F.fi (evalArgs_kw2 hall (thn (ha.run pos pins s1 σ _ _ I1 q1) fun us s2 ⟨vs, H1, I2, r, q2⟩ => thn (hkw.run pos pins s2 σ H1 _ I2 q2) fun ws s3 ⟨zs, H2, I3, rz, hm, l1, l2, q3⟩ => ⟨met_P I3 hm, ?_⟩) he)
  rw [hks]
  have r1 : Vals (V.ref x :: vs) (Value.ref x :: us) := .cons rfl r
  have e1 : (Value.ref x :: us).length = n + 1 := r1.length.symm.trans (congrArg Nat.succ l1)
  have e2 : ws.length = ks.length := rz.length.symm.trans l2
  refine wpAny_call (call_met I3 hm (codeAny_mono (Fn.run X.A X.stack s3 H2 ⟨.ref x :: us, ks.zip ws⟩ (gu (.ref x :: us) ws) _ _ E hr I3.env0 (hb.to _ (.ref x :: us) ws I3.kIn e1 e2) (hb.rel r1 rz) q3) fun fr s' hq => ?_))
  cases fr with
  | error er => exact hpass pins σ _ _ er s' I3 hq
  | ok fl =>
    cases fl with
    | ret u =>
      obtain ⟨v, H', I4, _, q4⟩ := I3.after hq
      exact ⟨σ, H', I4, q4⟩
    | next => exact False.elim hq
    | brk => exact False.elim hq
    | cont => exact False.elim hq⟩
end
end K14
/-! LH: defs whose closure is the class cell: their promise by the body at its activation. -/
namespace K14
open PySem PySem.Spec PyProof.Rows L2 NdefX
theorem PAt.nox {X : Cx} {body sts : List Stmt} {t : TS} (h : PAt X.nox body sts t) : PAt X body sts t := ⟨fun pins s σ H D I hw =>
  _root_.PySem.wpAt_mono (h.run pins s σ H D (I.wish _) hw) (fun _ _ q => q.unwish) fun _ _ z => False.elim z⟩
/-- a def as it stands behind the top, with the class cell in its closure: cc the cell, Dc the class, cda its code object -/
structure FunS (K : PySem.W.Frag) (nm qual : Str) (params : Arguments) (body : List Stmt) (scope : Scope) (dvs : List V) (kws : List (Str × V)) (f : Addr) (fd : FuncData) (cc Dc cda : Addr) : Prop where
  ex : ∃ (oc : Value) (od : Option Addr) (dV kV doc pm : Value) (an : Option Addr) (ct : Value) (osl : Array (Option Value)),
    fd = PySem.W.fnX nm qual params body scope [("__class__", cc)] dV kV doc pm an (.ref cda) ct ∧ K.lookup f = some ⟨oc, od, .func fd, osl⟩ ∧ PySem.W.codeIn K (.ref cda) qual = true ∧ DflV K dV dvs ∧ KwdV K kV kws
  cell : ∃ cl cld csl, K.lookup cc = some ⟨cl, cld, .cell (some (.ref Dc)), csl⟩
  kp : PySem.W.keepIn K (.ref f) = true
abbrev nfOf (nm qual : Str) (params : Arguments) (body : List Stmt) (scope : Scope) (cc cda : Addr) : NF := ⟨nm, qual, params, body, scope, [("__class__", cc)], cda⟩
section
variable {P : Program} {w : World} {K : PySem.W.Frag} {mg : Str → Option Value} {base : Heap} {nm qual : Str} {params : Arguments} {body : List Stmt} {scope : Scope} {dvs : List V} {kws : List (Str × V)} {f cc Dc cda : Addr} {fd : FuncData} {N ps : List Str} {k : Nat} {sp : Sp} {CX : CXT}
theorem cells_cc {A : Around} {outer : List Env} {s : Shared} {H : Hp} (e0 : Env0 P w K mg base A outer s H) (hc : ∃ cl cld csl, K.lookup cc = some ⟨cl, cld, .cell (some (.ref Dc)), csl⟩) : CellsAt [("__class__", cc)] ["__class__"] [some (.ref Dc)] s.heap H := by
  obtain ⟨cl, cld, csl, h⟩ := hc
  obtain ⟨h1, h2⟩ := e0.bs _ _ (e0.mod.kin _ _ h)
  have hic : s.heap.IsCell cc (some (.ref Dc)) := ⟨_, h1, rfl⟩
  have one : ∀ y c, ([("__class__", cc)] : List (Str × Addr)).lookup y = some c → y = "__class__" ∧ c = cc := fun y c e => by
    by_cases hy : y = "__class__"
    · subst hy
      simp at e
      exact ⟨rfl, e.symm⟩
    · have hb : (y == ("__class__" : Str)) = false := beq_eq_false_iff_ne.mpr hy
      simp [List.lookup, hb] at e
  refine ⟨rfl, fun y c e => ?_, fun x y c e1 e2 => ?_, fun i y e => ?_⟩
  · obtain ⟨_, rfl⟩ := one y c e
    exact ⟨h2, _, hic⟩
  · rw [(one x c e1).1, (one y c e2).1]
  · match i, e with
    | 0, e =>
      have ey : ("__class__" : Str) = y := by simpa using e
      subst ey
      refine ⟨cc, by simp, fun v hv => ?_⟩
      have ev : V.ref Dc = v := by simpa using hv
      subst ev
      exact ⟨.ref Dc, rfl, hic⟩
    | i + 1, e => simp at e
/-- THE RULE for such a def -/
theorem fnS_of (F : FunS K nm qual params body scope dvs kws f fd cc Dc cda) (S : NScope N ps ["__class__"] scope) (len : ∀ vs H Q E, sp vs H Q E → vs.length = ps.length)
    (hbody : ∀ (A : Around) (outer : List Env) (s : Shared) (H : Hp) (vs : List V) (Q : VK) (E : XK), Room k (A.deeper (envF (nfOf nm qual params body scope cc cda) f s.heap.objs.size)) → sp vs H Q E →
      ∃ t, PAt (ncx CX P w K mg base N (nfOf nm qual params body scope cc cda) f A outer s H E) body body t ∧ t { nx := fun _ H' => Q .non H', rt := Q } (startF N vs [some (.ref Dc)]) H) : FnOk P w K mg base CX (k + 1) f fd ps sp := by
  obtain ⟨oc, od, dV, kV, doc, pm, an, ct, osl, rfl, lk, hcd, _, _⟩ := F.ex
  refine ⟨len, fun A outer s H args us vs Q E hr e0 hb r hsp => ?_⟩
  have hl := len _ _ _ _ hsp
  have KX : K.In s.heap := e0.mod.kin.keeps fun b o e => (e0.bs b o e).1
  have lim : s.heap.NoLimit := e0.mod.nolimit.keeps fun b o e => (e0.bs b o e).1
  obtain ⟨t, ht, hq⟩ := hbody A outer s H vs Q E (hr.deeper _) hsp
  refine ks_codeAny_call_defAt (body := body) hr.depth (KX _ _ lk) rfl lim (PySem.W.codeRec_of KX hcd) rfl hb S.nocell (fun y hy => S.par _ (List.of_mem_zip (a := y.1) (b := y.2) hy).1) (fun h₁ hns kp => ?_) S.co S.gen S.kind
  have I : Inv (ncx CX P w K mg base N (nfOf nm qual params body scope cc cda) f A outer s H E) [] (startF N vs [some (.ref Dc)]) H { s with heap := h₁, toks := s.toks + (ps.zip us).length } := inv_startN (F := nfOf nm qual params body scope cc cda) S hr.hd e0 hl r (cells_cc e0 F.cell) hns kp
  refine _root_.PySem.wpAt_mono (ht.run [] _ _ H _ I hq) (fun fl s' hs => ?_) fun e s' hs => hs
  have fin : ∀ {σ' : L2.St} {H' : Hp} {v : V} {u : Value}, Inv (ncx CX P w K mg base N (nfOf nm qual params body scope cc cda) f A outer s H E) [] σ' H' s' → L2.RelV v u → Q v H' → CE outer P w H s Q u s' :=
    fun {σ' H' v u} J rv q => ⟨v, H', J.os, J.bare, J.base, J.hok, rv, q⟩
  cases fl with
  | ret u =>
    obtain ⟨v, σ', H', J, rv, q⟩ := hs
    exact fin J rv q
  | next =>
    obtain ⟨σ', H', J, q⟩ := hs
    exact fin (v := V.non) (u := Value.none) J rfl q
  | brk =>
    obtain ⟨_, _, _, q⟩ := hs
    exact False.elim q
  | cont =>
    obtain ⟨_, _, _, q⟩ := hs
    exact False.elim q
end
end K14
/-! LI: __init__s that say super().__init__(..), by types; Once, Mirrored. -/
namespace K14
open PySem PySem.Spec PyProof.Rows L2 NdefX
def startRF (n : Nat) (Dc : Addr) (ts : List Ty) : Rho := ts.map some ++ (some (tyV (.ref Dc)) :: List.replicate (n - ts.length - 1) none)
theorem envT_startF {H : Hp} {N : List Str} {Dc : Addr} {vs : List V} {ts : List Ty} (h : AllT H vs ts) : EnvT H (startF N vs [some (.ref Dc)]) (startRF N.length Dc ts) := by
  unfold startF startRF
  rw [h.length]
  exact (envT_args h).app ⟨⟨_, rfl, rfl⟩, envT_nones _⟩
def AllThaw : List Ty → Prop
  | [] => True
  | T :: Ts => ThawI T ∧ AllThaw Ts
theorem AllThaw.all {x C dx : Addr} {fs : List (Str × V)} {H : Hp} (own : H x = some (.ins C dx fs)) : ∀ {Ts : List Ty} {vs : List V}, AllThaw Ts → AllT H vs Ts → AllT (hide [x] H) vs Ts
  | [], [], _, _ => True.intro
  | T :: Ts, v :: vs, h, g => ⟨h.1 x C dx fs H v own g.1, AllThaw.all own h.2 g.2⟩
section
variable {X : Cx} {body : List Stmt} {e : Expr} {es : List Expr} {kws : List Keyword} {p0 p1 apos pos epos : Pos} {slf : Str} {f cda Dc g x C dx : Addr} {CC : Addr → Prop} {k n : Nat} {fd : FuncData} {ps ks : List Str} {ι : Type} {A : ι → List Ty} {R : ι → List (Str × Ty)} {ρ : Rho} {D : IEnds} {Ts Ds : List Ty}
theorem ia_super {pl : Sem Bool} (iz : ι) (i j : Nat) (S : DefS X f cda slf) (F : SupF X.K CC Dc g) (hC : CC C) (Fn : FnOk X.prog X.w X.K X.mg X.base CX0 k g fd ps (spI CC A R)) (hr : Room k X.A) (hb : KBn X.K fd ps (n + 1) ks (fun us ws => us ++ ws) (fun vs zs => vs ++ zs)) (ha : PA X (e :: es) (tTA ρ Ts)) (hn : Ts.length = n) (hkw : PK X kws (tTA ρ Ds)) (hmk : Ds.length = ks.length) (hA : A iz = Ts ++ Ds) (hT : AllThaw (A iz)) (hnx : D.nx (R iz) ρ)
    (h1 : ρ[i]? = some (some (tyV (.ref x))) := by rfl) (h2 : ρ[j]? = some (some (tyV (.ref Dc))) := by rfl) (hi : X.N[i]? = some slf := by rfl) (hj : X.N[j]? = some "__class__" := by rfl)
    (hks0 : X.env.kindOf "super" = some .globalImplicit := by rfl) (hkc : X.env.kindOf "__class__" = some .free := by rfl) (hkx : X.env.kindOf slf = some .local := by rfl) (hall : (backToKw pos (keywordEach kws X.env)).all (·.1.isSome) = true := by rfl) (hks : (backToKw pos (keywordEach kws X.env)).filterMap (·.1) = ks := by rfl)
    (he : starEach (e :: es) X.env = (false, eval e X.env) :: starEach es X.env := by rfl) (hpl : ((backTo pos (starEach (e :: es) X.env)).any (·.1) || (backToKw pos (keywordEach kws X.env)).any (·.1.isNone)) = false := by rfl) (hit : interactive X.env = false := by rfl) (hsw : swapsWith (.Call (.Attribute (.Call (.Name "super" p0) [] [] p1) "__init__" apos) (e :: es) kws pos) none epos.line X.env = pure false := by rfl)
    (ht : eval (.Call (.Attribute (.Call (.Name "super" p0) [] [] p1) "__init__" apos) (e :: es) kws pos) X.env = (do
      let ov ← attributeBase (.Call (.Name "super" p0) [] [] p1) "__init__" X.env (eval (.Call (.Name "super" p0) [] [] p1) X.env)
      standAt apos.atName
      let (f, first) ← holding [ov] (getMethod ov "__init__" pl)
      callWith pos f first (backTo pos (starEach (e :: es) X.env)) (backToKw pos (keywordEach kws X.env))) := by rfl) :
    P1At X body (.Expr (.Call (.Attribute (.Call (.Name "super" p0) [] [] p1) "__init__" apos) (e :: es) kws pos) epos) (iS x C dx [] ρ D) :=
  p1at_weak (p1at_super (E := E0) (i := i) (j := j) (n := n) S F Fn hr hb pass0 ha hkw hi hj hks0 hkc hkx hall hks he hpl hit hsw ht) fun D0 σ H q => by
    obtain ⟨fs, hx, hf⟩ := q.1.at_
    have hfs : fs = [] := by
      match fs, hf with
      | [], _ => rfl
    subst hfs
    obtain ⟨y1, a1, a2⟩ := q.1.env.get h1
    obtain ⟨y2, b1, b2⟩ := q.1.env.get h2
    have a2 : y1 = .ref x := a2
    have b2 : y2 = .ref Dc := b2
    subst a2 b2
    refine ⟨x, C, dx, [], hC, hx, a1, b1, fun p hp => ?_⟩
    have g0 : Gr H (upd H p (.met g x)) := Gr.new hp
    have E1 : EnvT (upd H p (.met g x)) σ ρ := (q.1.env.mono (.same hide_same)).mono g0
    refine ⟨E1, fun vs H1 g1 hv => ⟨E1.mono g1, fun zs H2 g2 hz => ?_⟩⟩
    have hx2 : H2 x = some (.ins C dx []) := (g1.trans g2).keep x _ (g0.keep x _ hx True.intro) True.intro
    refine ⟨(g1.trans g2).keep p _ upd_same True.intro, by rw [hv.length, hn], by rw [hz.length, hmk], iz, x, C, dx, vs ++ zs, rfl, hC, hx2, ?_, fun H' g3 hfin => ?_⟩
    · refine AllThaw.all hx2 hT ?_
      rw [hA]
      exact (hv.mono g2).app hz
    · have gg : Gr (hide [x] H) (hide [x] H') := (((g0.trans g1).trans g2).hide (.ins hx)).trans g3
      exact q.2.nx (R iz) ρ σ H' hnx ⟨hfin, q.1.env.mono gg⟩ gg
end
section
variable {P : Program} {w : World} {K : PySem.W.Frag} {mg : Str → Option Value} {base : Heap} {nm qual : Str} {params : Arguments} {body : List Stmt} {scope : Scope} {dvs : List V} {kws : List (Str × V)} {f cc Dc cda : Addr} {fd : FuncData} {N ps : List Str} {k : Nat}
theorem fn_IS {ι : Type} {CC : Addr → Prop} {Ai : ι → List Ty} {Ri : ι → List (Str × Ty)} (F : FunS K nm qual params body scope dvs kws f fd cc Dc cda) (S : NScope N ps ["__class__"] scope) (hA : ∀ i, (Ai i).length + 1 = ps.length)
    (hb : ∀ (i : ι) (x C dx : Addr) (A : Around) (outer : List Env) (s : Shared) (H : Hp) (E : XK), CC C → Room k (A.deeper (envF (nfOf nm qual params body scope cc cda) f s.heap.objs.size)) →
      PAt (ncx CX0 P w K mg base N (nfOf nm qual params body scope cc cda) f A outer s H E).nox body body (iS x C dx [] (startRF N.length Dc (tyV (.ref x) :: Ai i)) { nx := fun fts _ => fts = Ri i })) : FnOk P w K mg base CX0 (k + 1) f fd ps (spI CC Ai Ri) := by
  refine fnS_of F S (fun vs H Q E ⟨i, x, C, dx, ws, e, _, _, hv, _⟩ => by rw [e, List.length_cons, hv.length, hA]) fun A outer s H vs Q E hr ⟨i, x, C, dx, ws, e, hC, h1, hv, q⟩ => ?_
  subst e
  refine ⟨_, PAt.nox (hb i x C dx A outer s H E hC hr), ⟨⟨[], h1, True.intro⟩, envT_startF (vs := .ref x :: ws) (ts := tyV (.ref x) :: Ai i) ⟨rfl, hv⟩⟩, ⟨fun fts ρ' σ' H' a b c => ?_⟩⟩
  subst a
  exact q H' c b.at_
end
end K14
/-! LJ: Once, Mirrored. -/
namespace K14
open PySem PySem.Spec PyProof.Rows L2 NdefX
section
variable {P : Program} {w : World} {K : PySem.W.Frag} {mg : Str → Option Value} {base : Heap} {nm qual : Str} {params : Arguments} {body : List Stmt} {scope : Scope} {dvs : List V} {kws : List (Str × V)} {f cc Dc cda g : Addr} {fd fdg : FuncData} {N ps : List Str} {k : Nat} {CC : Addr → Prop}
/-- the code object at cda is of the program's file, whose top does not say super -/
structure FileF (P : Program) (K : PySem.W.Frag) (cda : Addr) : Prop where
  file : ∃ ccl cdd vs ccs file tf, K.lookup cda = some ⟨ccl, cdd, .fields vs, ccs⟩ ∧ vs[2]? = some (.str file tf) ∧ ((P.main.file : Str) == file) = true
  top : (P.main.scope.names.lookup ("super" : Str)).isSome = false
theorem defS_of {X : Cx} {slf : Str} (F : FunS K nm qual params body scope dvs kws f fd cc Dc cda) (Fi : FileF P K cda) (hfree : mg "super" = none) (h1 : X.env.func = some f) (h2 : X.env.code = .ref cda) (hK : X.K = K) (hm : X.mg = mg) (hp : X.prog = P) (hs : ((params.posonlyargs ++ params.args).head?).map (·.arg) = some slf) : DefS X f cda slf := by
  subst hK hm hp
  obtain ⟨oc, od, dV, kV, doc, pm, an, ct, osl, rfl, lk, _, _, _⟩ := F.ex
  obtain ⟨ar, e1, e2⟩ := Option.map_eq_some_iff.mp hs
  exact ⟨h1, h2, ⟨oc, od, _, osl, ar, lk, e1, e2⟩, Fi.file, Fi.top, hfree⟩
theorem FunS.kb (F : FunS K nm qual params body scope dvs kws f fd cc Dc cda) (n : Nat) (ks : List Str) (hd : dvs ≠ [])
    (h : ∀ (T : Addr) (kV doc pm : Value) (an : Option Addr) (ct : Value) (us its ws : List Value), us.length = n → its.length = dvs.length → ws.length = ks.length →
      ∃ k, bindArgs (PySem.W.fnX nm qual params body scope [("__class__", cc)] (.ref T) kV doc pm an (.ref cda) ct) ⟨us, ks.zip ws⟩ = seqItems? (.ref T) >>= k ∧ k (some its.toArray) = pure (ps.zip (us ++ ws))) : KBn K fd ps n ks (fun us ws => us ++ ws) (fun vs zs => vs ++ zs) := by
  obtain ⟨oc, od, dV, kV, doc, pm, an, ct, osl, rfl, lk, hcd, hD, hK⟩ := F.ex
  rcases hD with ⟨e, _⟩ | ⟨_, T, o, its, m, rfl, lT, oT, rT⟩
  · exact absurd e hd
  · refine ⟨fun s us ws X l1 l2 => ?_, fun r1 r2 => r1.append r2⟩
    obtain ⟨k, e1, e2⟩ := h T kV doc pm an ct us its ws l1 rT.length.symm l2
    refine BindsTo.of_looks fun M => ?_
    rw [e1]
    exact looks_items X lT oT (.of_pure e2)
theorem KBn.binds {n : Nat} (h : KBn K fd ps n [] (fun us ws => us ++ ws) (fun vs zs => vs ++ zs)) (hn : ps.length = n) : Binds K fd ps [] := fun s us X l => by
  have q := h.to s us [] X (by rw [List.append_nil] at l; rw [l, hn]) rfl
  exact q
abbrev onN : List Str := ["self", "letters", "rules", "__class__"]
theorem sc53 : NScope onN ["self", "letters", "rules"] ["__class__"] (defScope (memb 53 0)) := nscope_by (by decide +kernel)
theorem ok_once_init {v0 : V} (F : FunS K "__init__" "Once.__init__" (defArgs (memb 53 0)) (defBody (memb 53 0)) (defScope (memb 53 0)) [v0] [] f fd cc Dc cda) (Fi : FileF P K cda) (B : Free mg) (Su : SupF K CC Dc g) (hC : CC Dc)
    (Fg : FnOk P w K mg base CX0 9 g fdg ["self", "letters", "rules", "manner"] (spI CC (fun i : { T : Tb // TbOk T } => [tyD K (letD i.1.ls), tyD K (rulesD i.1.rs), tyD K (.str i.1.m)]) (fun i => tabF K i.1))) (bg : KBn K fdg ["self", "letters", "rules", "manner"] 3 ["manner"] (fun us ws => us ++ ws) (fun vs zs => vs ++ zs)) :
    FnOk P w K mg base CX0 10 f fd ["self", "letters", "rules"] (spI (fun C => C = Dc) (fun i : { T : Tb // TbOk T ∧ T.m = "once" } => [tyD K (letD i.1.ls), tyD K (rulesD i.1.rs)]) (fun i => tabF K i.1)) ∧ Binds K fd ["self", "letters", "rules"] [] := by
  refine ⟨fn_IS F sc53 (fun _ => rfl) fun i x C dx A outer s H E hc hr => ?_, ?_⟩
  · subst hc
    obtain ⟨T, O, ho⟩ := i
    refine ia_cons (ia_super (iz := (Subtype.mk T O : { T : Tb // TbOk T })) 0 3 (defS_of F Fi B.super rfl rfl rfl rfl rfl rfl) Su hC Fg hr bg (Ts := [tyD K (letD T.ls), tyD K (rulesD T.rs)]) (Ds := [tyD K (.str T.m)]) (ta_cons (te_var 1) (ta_one (te_var 2) rfl)) rfl (tk_cons (te_d te_str (congrArg PyData.str ho.symm)) tk_nil) rfl rfl ⟨thI_D, thI_D, thI_D, True.intro⟩ ?_)
    exact ia_nil rfl
  · refine KBn.binds (n := 3) (F.kb 3 [] (by simp) fun T kV doc pm an ct us its ws h1 h2 h3 => ?_) rfl
    match us, h1, its, h2, ws, h3 with
    | [a, b, c], _, [d], _, [], _ => exact ⟨_, rfl, rfl⟩
abbrev miN : List Str := ["self", "letters", "rules", "manner", "__class__", "given", "turned", "others", "other_manner"]
theorem sc54 : NScope miN ["self", "letters", "rules", "manner"] ["__class__"] (defScope (memb 54 0)) := nscope_by (by decide +kernel)
abbrev mirF (K : PySem.W.Frag) (T : Tb) : List (Str × Ty) := putT "own_told" (tyD K (tbD T)) (tabF K (mirT T))
theorem ok_mir_init {v0 : V} {kws : List (Str × V)} (F : FunS K "__init__" "Mirrored.__init__" (defArgs (memb 54 0)) (defBody (memb 54 0)) (defScope (memb 54 0)) [v0] kws f fd cc Dc cda) (Fi : FileF P K cda) (B : Free mg) (Su : SupF K CC Dc g) (hC : CC Dc) (hcl : Cls K Dc) (hna : NoAttr K Dc "own_told") (c34 : CLets P w K mg base) (c46 : CMirrored P w K mg base)
    (Fg : FnOk P w K mg base CX0 9 g fdg ["self", "letters", "rules", "manner"] (spI CC (fun i : { T : Tb // TbOk T } => [tyD K (letD i.1.ls), tyD K (rulesD i.1.rs), tyD K (.str i.1.m)]) (fun i => tabF K i.1))) (bg : KBn K fdg ["self", "letters", "rules", "manner"] 3 ["manner"] (fun us ws => us ++ ws) (fun vs zs => vs ++ zs)) :
    FnOk P w K mg base CX0 10 f fd ["self", "letters", "rules", "manner"] (spI (fun C => C = Dc) (fun i : { T : Tb // TbOk T ∧ T.m ≠ "once" ∧ TbOk (mirT T) } => [tyD K (letD i.1.ls), tyD K (rulesD i.1.rs), tyD K (.str i.1.m)]) (fun i => mirF K i.1)) ∧ KBn K fd ["self", "letters", "rules", "manner"] 3 ["manner"] (fun us ws => us ++ ws) (fun vs zs => vs ++ zs) := by
  refine ⟨fn_IS F sc54 (fun _ => rfl) fun i x C dx A outer s H E hc hr => ?_, ?_⟩
  · subst hc
    obtain ⟨T, O, ho, OM⟩ := i
    refine ia_cons (p1at_of (is_frame (ts_set 5 (te_tup (ds := [letD T.ls, rulesD T.rs, .str T.m]) (ta_cons (te_var 1) (ta_cons (te_var 2) (ta_cons (te_var 3) ta_nil)))) ⟨⟨thI_V, thI_D, thI_D, thI_D, thI_V, thI_D, True.intro⟩, ?_⟩ sc54.nd)))
    refine ia_cons (p1at_of (is_frame (ts_expr (te_fn (i := (Subtype.mk T O : { T : Tb // TbOk T })) c34 (hr.mono (by decide)) (ta_one (te_var 5) rfl)) ⟨⟨thI_V, thI_D, thI_D, thI_D, thI_V, thI_D, True.intro⟩, ?_⟩)))
    refine ia_cons (p1at_of (is_frame (ts_asg (vs := [6, 7, 8]) (T := tyD K (tbD (mirT T))) (te_fn (i := (MiIx.mk T O ho)) c46 (hr.mono (by decide)) (ta_one (te_var 5) rfl)) (tg_tripD 6 7 8 rfl sc54.nd (by decide) (by decide) (by decide)) ⟨⟨thI_V, thI_D, thI_D, thI_D, thI_V, thI_D, thI_D, thI_D, thI_D, True.intro⟩, ?_⟩)))
    refine ia_cons (ia_super (iz := (Subtype.mk (mirT T) OM : { T : Tb // TbOk T })) 0 4 (defS_of F Fi B.super rfl rfl rfl rfl rfl rfl) Su hC Fg hr bg (Ts := [tyD K (letD (mirT T).ls), tyD K (rulesD (mirT T).rs)]) (Ds := [tyD K (.str (mirT T).m)]) (ta_cons (te_var 6) (ta_one (te_var 7) rfl)) rfl (tk_cons (te_var 8) tk_nil) rfl rfl ⟨thI_D, thI_D, thI_D, True.intro⟩ ?_)
    refine ia_cons (p1at_of (is_fld hcl hna (te_var 5 (T := tyD K (tbD T))) thI_D ?_ (show 2 < 900 by decide) 0))
    exact ia_nil rfl
  · refine F.kb 3 ["manner"] (by simp) fun T kV doc pm an ct us its ws h1 h2 h3 => ?_
    match us, h1, its, h2, ws, h3 with
    | [a, b, c], _, [d], _, [e], _ => exact ⟨_, rfl, rfl⟩
end
end K14
/-! LK: isinstance of own classes. -/
namespace K14
open PySem PySem.Spec PyProof.Rows L2
/-- instances of these classes are instances of T -/
structure InsT (K : PySem.W.Frag) (CC : Addr → Prop) (T : Addr) : Prop where
  cl : ∀ C, CC C → Cls K C
  ha : ∀ C, CC C → PySem.W.findIn K (.ref C) "__class__" = some (some (.builtin "object.__class__"))
  hn : PySem.W.specialIn K (.builtin "object.__class__") "__get__" = some (some (.builtin "getset_descriptor.__get__"))
  htk : PySem.W.takesIn K (.builtin "object.__class__") = some true
  hm : ∀ C, CC C → PySem.W.mroIn K C (.type "object") = some true
  is : ∀ C, CC C → PySem.W.kitOne K (.ref C) (.ref T) = some true
section
variable {X : Cx} {ρ : Rho} {pos p np : Pos} {a : Expr} {n : Str} {CC : Addr → Prop} {T : Addr} {fts : List (Str × Ty)}
theorem te_isO (hm : X.mg "isinstance" = none) (ha : PE X a (tT ρ (tyO CC fts))) (hn : X.mg n = some (.ref T)) (F : InsT X.K CC T)
    (hg : Gl X "isinstance" := by rfl) (hgn : Gl X n := by rfl) (hs : starEach [a, .Name n np] X.env = [(false, eval a X.env), (false, eval (.Name n np) X.env)] := by rfl) (hdb : (n == ("__debug__" : Str)) = false := by decide) :
    PE X (.Call (.Name "isinstance" p) [a, .Name n np] [] pos) (tT ρ (dB X true)) :=
  te_callB call_isi hm boot_isinstance (ta_cons ha (ta_one (T := tyV (.ref T)) (te_c (v := .ref T) (pe_glob hgn hn rfl hdb) fun _ => rfl) (by rfl)) (by rw [hs]; rfl)) (fun vs H Q hv k => by
    match vs, hv with
    | [v, w], hv =>
      obtain ⟨⟨b, C, dx, fs, ft, e1, hC, h3, h4, h5⟩, h2, _⟩ := hv
      have e : w = .ref T := h2
      subst e e1
      exact ⟨.ref b, .ref T, _, .ref T, true, rfl, .own T, .base (.ins h3 (F.cl C hC) (F.ha C hC) F.hn F.htk (F.hm C hC)), F.is C hC, k _ H (Gr.refl H) (Dp.bl _)⟩) hg (by decide) (by decide) (by rw [hs]; rfl) (by rfl)
end
end K14
/-! LL: table_object, Table's ==, +. -/
namespace K14
open PySem PySem.Spec PyProof.Rows L2
section
variable {P : Program} {w : World} {K : PySem.W.Frag} {mg : Str → Option Value} {base : Heap} {f tb fi : Addr} {fd fdi : FuncData} {CC : Addr → Prop}
abbrev FTabInit (P : Program) (w : World) (K : PySem.W.Frag) (mg : Str → Option Value) (base : Heap) (CC : Addr → Prop) (fi : Addr) (fdi : FuncData) : Prop := FnOk P w K mg base CX0 9 fi fdi ["self", "letters", "rules", "manner"] (spI CC (fun i : { T : Tb // TbOk T } => [tyD K (letD i.1.ls), tyD K (rulesD i.1.rs), tyD K (.str i.1.m)]) (fun i => tabF K i.1))
abbrev BTabInit (K : PySem.W.Frag) (fdi : FuncData) : Prop := KBn K fdi ["self", "letters", "rules", "manner"] 3 ["manner"] (fun us ws => us ++ ws) (fun vs zs => vs ++ zs)
abbrev CTabObj (P : Program) (w : World) (K : PySem.W.Frag) (mg : Str → Option Value) (base : Heap) (tb : Addr) : Prop := Cal P w K mg base 11 "table_object" (fun i : { T : Tb // TbOk T } => [tyD K (tbD i.1)]) (fun i => tyTab K (fun C => C = tb) i.1)
theorem sc51 : FnScope ["form", "letters", "rules", "manner"] ["form"] (scopeAt 51) := ⟨rfl, rfl, rfl, by decide +kernel, rfl, by decide +kernel, by decide +kernel⟩
theorem ok_table_object (F : DefAt K "table_object" 51 f fd) (hm : mg "table_object" = some (.ref f)) (M : Mk K tb fi) (Fi : FTabInit P w K mg base CC fi fdi) (bi : BTabInit K fdi) (hC : CC tb) (ht : mg "Table" = some (.ref tb)) : CTabObj P w K mg base tb := by
  refine cal_of F hm sc51 (fun kV doc pm an cdv ct us hl => ?_) (fun _ => rfl) fun i cdv A outer s H E hr => ?_
  · match us, hl with
    | [a], _ => rfl
  · obtain ⟨T, O⟩ := i
    refine ts_cons (ts_asg (vs := [1, 2, 3]) (te_var 0 (T := tyD K (tbD T))) (tg_tripD 1 2 3 rfl sc51.nd (by decide) (by decide) (by decide)) ?_)
    exact ts_one (ts_ret (te_makeK (i := (Subtype.mk T O : { T : Tb // TbOk T })) (Ts := [tyD K (letD T.ls), tyD K (rulesD T.rs)]) (Ds := [tyD K (.str T.m)]) M Fi hC hr ht bi (ta_cons (te_var 1) (ta_one (te_var 2) rfl)) rfl (tk_cons (te_var 3) tk_nil) rfl rfl))
end
end K14
/-! LM: a class held by a local, called; Table.of. -/
namespace K14
open PySem PySem.Spec PyProof.Rows L2
section
variable {X : Cx} {ρ : Rho} {pos p : Pos} {e : Expr} {es : List Expr} {k n j : Nat} {C f : Addr} {fd : FuncData} {ps ks : List Str} {ι : Type} {CC : Addr → Prop} {A : ι → List Ty} {R : ι → List (Str × Ty)} {x : Str} {Ts Ds : List Ty}
theorem pe_makeNL {CX : CXT} {sp : Sp} {E : XK} {kws : List Keyword} {t tk : TA} {g : List Value → List Value → List Value} {gV : List V → List V → List V} {te : TE} (M : Mk X.K C f) (F : FnOk X.prog X.w X.K X.mg X.base CX k f fd ps sp) (hr : Room (k + 1) X.A) (hn : PE X (.Name x p) te) (hb : KBn X.K fd ps (n + 1) ks g gV) (hx : Passes CX X E)
    (ha : PA X (e :: es) t) (hkw : PK X kws tk) (hall : (backToKw pos (keywordEach kws X.env)).all (·.1.isSome) = true := by rfl) (hks : (backToKw pos (keywordEach kws X.env)).filterMap (·.1) = ks := by rfl)
    (he : starEach (e :: es) X.env = (false, eval e X.env) :: starEach es X.env := by rfl)
    (hpl : ((backTo pos (starEach (e :: es) X.env)).any (·.1) || (backToKw pos (keywordEach kws X.env)).any (·.1.isNone)) = false := by rfl) :
    PE X (.Call (.Name x p) (e :: es) kws pos) (fun σ H Q => te σ H fun v H1 => v = .ref C ∧ tMakeN C n ks.length sp gV E t tk σ H1 Q) := by
  refine ⟨fun pins s σ H Q I h => ?_⟩
  refine wpAny_Call_Name_kw (thn (hn.run pins s σ H _ I h) fun u s0 ⟨v, H0, I0, rv, ev, q0⟩ => ?_)
  subst ev
  obtain rfl : u = Value.ref C := rv
  refine PySem.W.callWith_KW (h₀ := X.base) I0.ok.mod.kin M.kp hall (thn (ha.run pos pins s0 σ H0 _ I0 q0) fun us s1 ⟨vs, H1, I1, r, q⟩ => ?_) hpl he
  refine thn (hkw.run pos pins s1 σ H1 _ I1 q) fun ws s2 ⟨zs, H2, I2, rz, l1, l2, q2⟩ => ⟨I2.kIn, ?_⟩
  rw [hks]
  exact run_makeN M F hr hb hx I2 r rz l1 l2 q2
theorem te_makeKL {i : ι} {kws : List Keyword} (M : Mk X.K C f) (F : FnOk X.prog X.w X.K X.mg X.base CX0 k f fd ps (spI CC A R)) (hC : CC C) (hr : Room (k + 1) X.A) (hnm : PE X (.Name x p) (tT ρ (tyV (.ref C)))) (hb : KBn X.K fd ps (n + 1) ks (fun us ws => us ++ ws) (fun vs zs => vs ++ zs)) (ha : PA X (e :: es) (tTA ρ Ts)) (hn : Ts.length = n) (hkw : PK X kws (tTA ρ Ds)) (hmk : Ds.length = ks.length) (hi : A i = Ts ++ Ds)
    (hall : (backToKw pos (keywordEach kws X.env)).all (·.1.isSome) = true := by rfl) (hks : (backToKw pos (keywordEach kws X.env)).filterMap (·.1) = ks := by rfl)
    (he : starEach (e :: es) X.env = (false, eval e X.env) :: starEach es X.env := by rfl) (hpl : ((backTo pos (starEach (e :: es) X.env)).any (·.1) || (backToKw pos (keywordEach kws X.env)).any (·.1.isNone)) = false := by rfl) : PE X (.Call (.Name x p) (e :: es) kws pos) (tT ρ (tyO (fun C' => C' = C) (R i))) :=
  pe_weak (pe_makeNL (E := E0) M F hr hnm hb pass0 ha hkw hall hks he hpl) fun σ H Q q => ⟨q.1, fun c H0 e0 hc => ⟨hc, q.1.mono e0, fun vs H1 e1 hv => ⟨(q.1.mono e0).mono e1, fun zs H2 e2 hz => ⟨by rw [hv.length, hn], by rw [hz.length, hmk], fun y dx hy hdx hne => by
    have eh := made_env (C := C) hy hdx hne
    refine ⟨i, y, C, dx, vs ++ zs, rfl, hC, upd_same, ?_, fun H' g ⟨fs, h1, h2⟩ => ⟨rfl, q.2 _ H' ?_ ⟨y, C, dx, fs, _, rfl, rfl, h1, h2.mono (.same hide_same), fun _ _ => rfl⟩⟩⟩
    · rw [eh, hi]
      exact ((hv.mono e2).app hz).mono (Gr.new hdx)
    · rw [eh] at g
      exact (((e0.trans e1).trans e2).trans (Gr.new hdx)).trans (g.trans (.same hide_same))⟩⟩⟩⟩
end
section
variable {P : Program} {w : World} {K : PySem.W.Frag} {mg : Str → Option Value} {base : Heap} {f tb fi : Addr} {fd fdi : FuncData} {CC : Addr → Prop}
theorem sc521 : FnScope ["cls", "table", "letters", "rules", "manner"] ["cls", "table"] (defScope (memb 52 1)) := ⟨rfl, rfl, rfl, by decide +kernel, rfl, by decide +kernel, by decide +kernel⟩
theorem ok_table_of (F : MethAt K "of" "Table.of" 52 1 [] f fd) (M : Mk K tb fi) (Fi : FTabInit P w K mg base CC fi fdi) (bi : BTabInit K fdi) (hC : CC tb) (c34 : CLets P w K mg base) : FnOk P w K mg base CX0 11 f fd ["cls", "table"] (spT (fun i : { T : Tb // TbOk T } => [tyV (.ref tb), tyD K (tbD i.1)]) (fun i => tyTab K (fun C => C = tb) i.1)) ∧ Binds K fd ["cls", "table"] [] := by
  refine ⟨fn_T F sc521 (fun _ => rfl) fun i cdv A outer s H E hr => ?_, methBinds F fun kV doc pm an cdv ct us hl => ?_⟩
  · obtain ⟨T, O⟩ := i
    refine ts_cons (ts_expr (te_fn (i := (Subtype.mk T O : { T : Tb // TbOk T })) c34 (hr.mono (by decide)) (ta_one (te_var 1) rfl)) ?_)
    refine ts_cons (ts_asg (vs := [2, 3, 4]) (te_var 1 (T := tyD K (tbD T))) (tg_tripD 2 3 4 rfl sc521.nd (by decide) (by decide) (by decide)) ?_)
    exact ts_one (ts_ret (te_makeKL (i := (Subtype.mk T O : { T : Tb // TbOk T })) (Ts := [tyD K (letD T.ls), tyD K (rulesD T.rs)]) (Ds := [tyD K (.str T.m)]) M Fi hC hr (te_var 0) bi (ta_cons (te_var 2) (ta_one (te_var 3) rfl)) rfl (tk_cons (te_var 4) tk_nil) rfl rfl))
  · match us, hl with
    | [a, b], _ => rfl
end
end K14
/-! LN: own binary operators. -/
namespace K14
open PySem PySem.Spec PyProof.Rows L2 PySem.W
section
variable {prog : Program} {w : World} {A : Around} {E : Value → Shared → Prop} {s : Shared} {K : Frag} {x C f : Addr} {ox : Obj} {od : Option Obj}
/-- x op b, b of a built-in type T -/
theorem bin_T {T : String} {op : Operator} {b : Value} {fo ro rc : Option Value} {Q : Value → Shared → Prop} (X : K.In s.heap) (I : InstAt s.heap x ox C od) (hb : Looks (model prog w) s.heap (typeOf b) (.type T)) (hc : selfFirst K C = true)
    (hs : findIn K (.ref C) (PySem.dunder op.info.2) = some (some (.ref f))) (hf : isFn K (.ref f) = true) (hr : findIn K (.ref C) (dunderR op.info.2) = some rc) (hp : rc = none ∨ ∃ g : Addr, rc = some (.ref g))
    (h1 : findIn K (.type T) (PySem.dunder op.info.2) = some fo) (h2 : findIn K (.type T) (dunderR op.info.2) = some ro) (hsub : subIn K (.type T) (.ref C) = some false)
    (h : wpAny (model prog w) A (call (.ref f) [.ref x, b]) (PySem.W.CmpBack Q) E s) : wpAny (model prog w) A (binaryOp op (.ref x) b) Q E s := by
  obtain ⟨cd, rest, hcd, hm⟩ := ksp_first hc
  rcases hi : op.info with ⟨sym, nm'⟩
  rw [hi] at hs hr h1 h2
  dsimp only at hs hr h1 h2
  have one := ksp_try X I hs hf h
  obtain ⟨hh, g, d, tt, os⟩ := s
  have L1 : Looks (model prog w) hh (typeOf (.ref x)) (.ref C) := I.type
  have L2 : Looks (model prog w) hh (typeOf b) (.type T) := hb
  have L3 : Looks (model prog w) hh (fillsNumberSlot (.ref C) nm') true := fills_K X hcd hm hs
  have L4 : Looks (model prog w) hh (fillsNumberSlot (.type T) nm') ((fo.isSome && !isSeqSlot fo) || (ro.isSome && !isSeqSlot ro)) := ksp_fillsT X h1 h2
  have L5 : Looks (model prog w) hh (isSubtype (.type T) (.ref C)) false := looks_subIn X hsub
  have L6 : Looks (model prog w) hh (numberSlotInPython (.ref C) nm') true := ksp_inPy X hs hr hp
  have L7 : Looks (model prog w) hh (numberSlotInPython (.type T) nm') false := Looks.of_pure rfl
  have L8 : Looks (model prog w) hh (typeLookup (.type T) (dunderR nm')) ro := looks_findIn X h2
  generalize ((fo.isSome && !isSeqSlot fo) || (ro.isSome && !isSeqSlot ro)) = right at L4
  have hne : (Value.ref C == Value.type T) = false := Bool.eq_false_iff.mpr fun q => by cases beq_iff_eq.mp q
  simp only [binaryOp, hi]
  refine wpAny_holding (wpAny_bind ?_)
  unfold binaryOp1
  refine wpAny_bind (L1.at (wpAny_bind (L2.at (wpAny_bind (L3.at ?_)))))
  simp only [hne, Bool.false_eq_true, if_false]
  cases right with
  | false =>
    ksp_lk
    refine wpAny_mono one (fun r s' hr' => ?_) fun _ _ e => e
    obtain ⟨v, rfl, hq⟩ := hr'
    ksp_lk
    exact hq
  | true =>
    ksp_lk
    refine wpAny_mono one (fun r s' hr' => ?_) fun _ _ e => e
    obtain ⟨v, rfl, hq⟩ := hr'
    ksp_lk
    exact hq
/-- x op b, b an instance of C2 (C itself, or a class that is no subclass of C) -/
theorem bin_C {C2 f2 : Addr} {op : Operator} {b : Value} {rc rc2 : Option Value} {Q : Value → Shared → Prop} (X : K.In s.heap) (I : InstAt s.heap x ox C od) (hb : Looks (model prog w) s.heap (typeOf b) (.ref C2)) (hc : selfFirst K C = true) (hc2 : selfFirst K C2 = true)
    (hs : findIn K (.ref C) (PySem.dunder op.info.2) = some (some (.ref f))) (hf : isFn K (.ref f) = true) (hr : findIn K (.ref C) (dunderR op.info.2) = some rc) (hp : rc = none ∨ ∃ g : Addr, rc = some (.ref g))
    (hs2 : findIn K (.ref C2) (PySem.dunder op.info.2) = some (some (.ref f2))) (hr2 : findIn K (.ref C2) (dunderR op.info.2) = some rc2) (hp2 : rc2 = none ∨ ∃ g : Addr, rc2 = some (.ref g)) (hsub : C2 = C ∨ subIn K (.ref C2) (.ref C) = some false)
    (h : wpAny (model prog w) A (call (.ref f) [.ref x, b]) (PySem.W.CmpBack Q) E s) : wpAny (model prog w) A (binaryOp op (.ref x) b) Q E s := by
  obtain ⟨cd, rest, hcd, hm⟩ := ksp_first hc
  obtain ⟨cd2, rest2, hcd2, hm2⟩ := ksp_first hc2
  rcases hi : op.info with ⟨sym, nm'⟩
  rw [hi] at hs hr hs2 hr2
  dsimp only at hs hr hs2 hr2
  have one := ksp_try X I hs hf h
  obtain ⟨hh, g, d, tt, os⟩ := s
  have L1 : Looks (model prog w) hh (typeOf (.ref x)) (.ref C) := I.type
  have L2 : Looks (model prog w) hh (typeOf b) (.ref C2) := hb
  have L3 : Looks (model prog w) hh (fillsNumberSlot (.ref C) nm') true := fills_K X hcd hm hs
  have L4 : Looks (model prog w) hh (fillsNumberSlot (.ref C2) nm') true := fills_K X hcd2 hm2 hs2
  have L6 : Looks (model prog w) hh (numberSlotInPython (.ref C) nm') true := ksp_inPy X hs hr hp
  have L7 : Looks (model prog w) hh (numberSlotInPython (.ref C2) nm') true := ksp_inPy X hs2 hr2 hp2
  simp only [binaryOp, hi]
  refine wpAny_holding (wpAny_bind ?_)
  unfold binaryOp1
  refine wpAny_bind (L1.at (wpAny_bind (L2.at (wpAny_bind (L3.at ?_)))))
  by_cases hCC : C = C2
  · have hne : (Value.ref C == Value.ref C2) = true := by rw [hCC]; simp
    simp only [hne, if_true]
    ksp_lk
    refine wpAny_mono one (fun r s' hr' => ?_) fun _ _ e => e
    obtain ⟨v, rfl, hq⟩ := hr'
    ksp_lk
    exact hq
  · have hne : (Value.ref C == Value.ref C2) = false := by simp [hCC]
    have L5 : Looks (model prog w) hh (isSubtype (.ref C2) (.ref C)) false := looks_subIn X (hsub.resolve_left fun z => hCC z.symm)
    simp only [hne, Bool.false_eq_true, if_false]
    ksp_lk
    refine wpAny_mono one (fun r s' hr' => ?_) fun _ _ e => e
    obtain ⟨v, rfl, hq⟩ := hr'
    ksp_lk
    exact hq
end
end K14
/-! LO: ==, len, [], str, + of instances of own classes, by types. -/
namespace K14
open PySem PySem.Spec PyProof.Rows L2
/-- a special method of all these classes -/
structure SpcF (K : PySem.W.Frag) (CC : Addr → Prop) (m : Str) (f : Addr) : Prop where
  at_ : ∀ C, CC C → PySem.W.findIn K (.ref C) m = some (some (.ref f))
  fn : PySem.W.isFn K (.ref f) = true
  fi : PySem.W.fnIn K f = true
section
variable {X : Cx} {pins : List (Addr × Obj)} {σ : L2.St} {H : Hp} {s : Shared} {k : Nat} {f : Addr} {fd : FuncData} {ps : List Str} {ι : Type} {A : ι → List Ty} {R : ι → Ty} {vs : List V} {us : List Value} {E' : Value → Shared → Prop}
/-- the callee runs, by types -/
theorem run_T {i : ι} (F : FnOk X.prog X.w X.K X.mg X.base CX0 k f fd ps (spT A R)) (hr : Room k X.A) (hb : Binds X.K fd ps []) (I : Inv X pins σ H s) (r : Vals vs us) (h : AllT H vs (A i)) : wpAny (model X.prog X.w) X.A (call (.ref f) us) (EP X pins σ (fun v H' => Gr H H' ∧ (R i).p H' v)) X.xe s :=
  run_fn (E := E0) F hr hb .nil pass0 I r ⟨i, by rw [List.append_nil]; exact h, fun v H' g p => ⟨g, p⟩⟩
theorem run_T1 {i : ι} (F : FnOk X.prog X.w X.K X.mg X.base CX0 k f fd ps (spT A R)) (hr : Room (k + 1) X.A) (hb : Binds X.K fd ps []) (I : Inv X pins σ H s) (r : Vals vs us) (h : AllT H vs (A i)) : wpAny (model X.prog X.w) X.A.in1 (call (.ref f) us) (EP X pins σ (fun v H' => Gr H H' ∧ (R i).p H' v)) E' s := by
  have hl : (us ++ ([] : List Value)).length = ps.length := by
    rw [List.append_nil, ← r.length]
    exact F.len vs H (fun v H' => Gr H H' ∧ (R i).p H' v) E0 ⟨i, h, fun v H' g p => ⟨g, p⟩⟩
  have hbb := hb s us I.kIn hl
  rw [List.append_nil] at hbb
  refine wpAny_call (codeAny_mono (F.run X.A.in1 X.stack s H ⟨us, []⟩ us vs (fun v H' => Gr H H' ∧ (R i).p H' v) E0 hr.in1 I.env0.in1 hbb r ⟨i, h, fun v H' g p => ⟨g, p⟩⟩) fun fr s' hq => ?_)
  cases fr with
  | error er => exact False.elim (pass0 (X := X.nox) pins σ H s er s' (I.wish _) hq)
  | ok fl =>
    cases fl with
    | ret u => exact I.after hq
    | next => exact False.elim hq
    | brk => exact False.elim hq
    | cont => exact False.elim hq
end
theorem relV_back {v : V} {u : Value} {Q : Value → Shared → Prop} {s : Shared} (r : RelV v u) (h : Q u s) : PySem.W.CmpBack Q u s := by
  cases v with
  | non => cases r; exact h
  | bl b => cases r; exact h
  | int i => obtain ⟨t, rfl⟩ := r; exact h
  | str z => obtain ⟨t, rfl⟩ := r; exact h
  | ref a => cases r; exact h
  | _ => first | (cases r; exact h) | (obtain ⟨t, rfl⟩ := r; exact h)
section
variable {X : Cx} {ρ : Rho} {pos p : Pos} {a b : Expr} {k : Nat} {f : Addr} {fd : FuncData} {ps : List Str} {ι : Type} {A : ι → List Ty} {R : ι → Ty} {CC C2 : Addr → Prop} {fts fts2 : List (Str × Ty)} {T : Ty}
/-- o == o2 by __eq__ -/
theorem te_eqO {i : ι} {c : Bool} (ha : PE X a (tT ρ (tyO CC fts))) (hb : PE X b (tT ρ (tyO C2 fts2))) (S : SpcF X.K CC "__eq__" f) (cl : ∀ C, CC C → Cls X.K C) (cl2 : ∀ C, C2 C → Cls X.K C) (hn : ∀ C D, CC C → C2 D → PySem.W.notFirst X.K C (.ref D) = true)
    (F : FnOk X.prog X.w X.K X.mg X.base CX0 k f fd ps (spT A R)) (hr : Room k X.A) (hbd : Binds X.K fd ps []) (hA : A i = [tyO CC fts, tyO C2 fts2]) (hR : R i = dB X c) : PE X (.Compare a [.Eq] [b] pos) (tT ρ (dB X c)) := by
  have op : OpR X (compareOp .Eq) (fun x y H Q => (tyO CC fts).p H x ∧ (tyO C2 fts2).p H y ∧ ∀ v H', Gr H H' → (dB X c).p H' v → Q v H') := by
    intro pins s σ H x y u w Q I rx ry ⟨hx, hy, q⟩
    obtain ⟨o1, C, dx, fs, ft, e1, hC, h3, h4, h5⟩ := id hx
    obtain ⟨o2, D, dy, gs, gt, e2, hD, g3, g4, g5⟩ := id hy
    subst e1 e2
    cases (show u = Value.ref o1 from rx)
    cases (show w = Value.ref o2 from ry)
    obtain ⟨mA, O, _, _, _, _⟩ := ins_get I.hok h3
    obtain ⟨od, J, _⟩ := O.look
    obtain ⟨mB, O2, _, _, _, _⟩ := ins_get I.hok g3
    obtain ⟨od2, J2, _⟩ := O2.look
    obtain ⟨m, fr⟩ := I.fr
    show wpAny _ _ (richCompare .Eq (.ref o1) (.ref o2)) _ _ _
    refine PySem.W.cmp_K hr.units0 fr I.ok.mod.kin J J2.type (hn C D hC hD) (S.at_ C hC) S.fn (thn (run_T (i := i) F hr hbd I (vs := [.ref o1, .ref o2]) (.cons rfl (.cons rfl .nil)) (by rw [hA]; exact ⟨hx, hy, True.intro⟩)) fun v s' ⟨z, H', I', rz, g, pz⟩ => ?_)
    refine relV_back rz ⟨z, H', I', rz, q z H' g ?_⟩
    rw [← hR]
    exact pz
  exact te_cmp op ha hb (fun x y H Q hx hy q => ⟨hx, hy, q⟩) (nomark _)
/-- len(o) by __len__ -/
theorem te_lenO {i : ι} {n : Nat} (hm : X.mg "len" = none) (ha : PE X a (tT ρ (tyO CC fts))) (S : SpcF X.K CC "__len__" f) (F : FnOk X.prog X.w X.K X.mg X.base CX0 k f fd ps (spT A R)) (hr : Room (k + 1) X.A) (hbd : Binds X.K fd ps []) (hA : A i = [tyO CC fts]) (hR : R i = dI X n) (hn : n ≤ 1000000) (hg : Gl X "len" := by rfl) (hs : starEach [a] X.env = [(false, eval a X.env)] := by rfl) : PE X (.Call (.Name "len" p) [a] [] pos) (tT ρ (dI X n)) := by
  have cr : CallR X (.builtin "len") (fun xs H Q => ∃ x, xs = [x] ∧ (tyO CC fts).p H x ∧ ∀ v H', Gr H H' → (dI X n).p H' v → Q v H') := by
    intro pins s σ H xs us Q I r h
    obtain ⟨x, rfl, hx, q⟩ := h
    obtain ⟨u, rfl, rx⟩ := vals1 r
    obtain ⟨o1, C, dx, fs, ft, e1, hC, h3, h4, h5⟩ := id hx
    subst e1
    cases (show u = Value.ref o1 from rx)
    obtain ⟨mA, O, _, _, _, _⟩ := ins_get I.hok h3
    obtain ⟨od, J, _⟩ := O.look
    obtain ⟨m, fr⟩ := I.fr
    refine PySem.W.len_K fr I.ok.mod.kin J (S.at_ C hC) S.fn (thn (run_T1 (i := i) F hr hbd I (vs := [.ref o1]) (.cons rfl .nil) (by rw [hA]; exact ⟨hx, True.intro⟩)) fun v s' ⟨z, H', I', rz, g, pz⟩ => ?_)
    rw [hR] at pz
    have ez := Dp.int_ (show Dp X.K H' z (.int (n : Nat)) from pz)
    subst ez
    obtain ⟨t, rfl⟩ := rz
    exact ⟨⟨by omega, by omega⟩, ⟨.int n, H', I'.tok _, ⟨_, rfl⟩, q _ H' g (.int _)⟩⟩
  exact te_b1 cr hm PySem.boot_len ha (fun v H Q hv q => ⟨v, rfl, hv, q⟩) hg hs
end
end K14
/-! LP: [], str, +, |, - and calls of instances of own classes, by types. -/
namespace K14
open PySem PySem.Spec PyProof.Rows L2
section
variable {X : Cx} {ρ : Rho} {pos p : Pos} {a b : Expr} {k : Nat} {f : Addr} {fd : FuncData} {ps : List Str} {ι : Type} {A : ι → List Ty} {R : ι → Ty} {CC C2 : Addr → Prop} {fts fts2 : List (Str × Ty)} {T B : Ty}
/-- o[e] by __getitem__ -/
theorem te_ixO {i : ι} (ha : PE X a (tT ρ (tyO CC fts))) (hb : PE X b (tT ρ B)) (S : SpcF X.K CC "__getitem__" f) (F : FnOk X.prog X.w X.K X.mg X.base CX0 k f fd ps (spT A R)) (hr : Room (k + 1) X.A) (hbd : Binds X.K fd ps []) (hA : A i = [tyO CC fts, B])
    (hsl : ∀ o v, subscripted b true o v = runValue (.builtin "lifetime.subscript" ⟨[o, v], []⟩) := by intro _ _; with_unfolding_all rfl) (hs : PlainIx b := by exact fun _ _ => rfl) : PE X (.Subscript a b pos) (tT ρ (R i)) := by
  have ix : ∀ (value : Expr) (pins : List (Addr × Obj)) (s : Shared) (σ : L2.St) (H : Hp) (x y : V) (v u : Value) (Q : VK), Inv X pins σ H s → RelV x v → RelV y u → (tyO CC fts).p H x → B.p H y → (∀ v H', Gr H H' → (R i).p H' v → Q v H') → wpAny (model X.prog X.w) X.A (subscriptTail value b v u) (EP X pins σ Q) X.xe s := by
    intro value pins s σ H x y v u Q I rx ry hx hy q
    obtain ⟨o1, C, dx, fs, ft, e1, hC, h3, h4, h5⟩ := id hx
    subst e1
    cases (show v = Value.ref o1 from rx)
    obtain ⟨mA, O, _, _, _, _⟩ := ins_get I.hok h3
    obtain ⟨od, J, _⟩ := O.look
    obtain ⟨m, fr⟩ := I.fr
    exact PySem.W.sub_K fr I.ok.mod.kin J (S.at_ C hC) S.fi S.fn (thn (run_T1 (i := i) F hr hbd I (vs := [.ref o1, y]) (.cons rfl (.cons ry .nil)) (by rw [hA]; exact ⟨hx, hy, True.intro⟩)) fun v s' ⟨z, H', I', rz, g, pz⟩ => ⟨z, H', I', rz, q z H' g pz⟩) (hsl _ _)
  refine ⟨fun pins s σ H Q I q => ?_⟩
  refine Subscript_ (thn (ha.run pins s σ H (fun v H1 => Gr H H1 ∧ (tyO CC fts).p H1 v) I ⟨q.1, fun v H1 g z => ⟨g, z⟩⟩) fun v s1 ⟨x, H1, I1, r1, g1, hx⟩ => thn (hb.run pins s1 σ H1 (fun v H2 => Gr H1 H2 ∧ B.p H2 v) I1 ⟨q.1.mono g1, fun v H2 g z => ⟨g, z⟩⟩) fun u s2 ⟨y, H2, I2, r2, g2, hy⟩ => ?_)
  exact ix a pins s2 σ H2 x y v u Q I2 r1 r2 ((tyO CC fts).st g2 hx) hy fun v H' g z => q.2 v H' ((g1.trans g2).trans g) z
/-- o(e) by __call__ -/
theorem te_callO {i : ι} {e : Expr} {es : List Expr} {Ts : List Ty} (ha : PE X a (tT ρ (tyO CC fts))) (S : SpcF X.K CC "__call__" f) (F : FnOk X.prog X.w X.K X.mg X.base CX0 k f fd ps (spT A R)) (hr : Room k X.A) (hbd : Binds X.K fd ps []) (hx : PA X (e :: es) (tTA ρ Ts)) (hA : A i = tyO CC fts :: Ts)
    (ht : eval (.Call a (e :: es) [] pos) X.env = (do callWith pos (← eval a X.env) [] (backTo pos (starEach (e :: es) X.env)) (backToKw pos (keywordEach [] X.env))) := by rfl)
    (he : starEach (e :: es) X.env = (false, eval e X.env) :: starEach es X.env := by rfl) (hpl : (backTo pos (starEach es X.env)).any (·.1) = false := by rfl) : PE X (.Call a (e :: es) [] pos) (tT ρ (R i)) := ⟨fun pins s σ H Q I q => by
  refine Call_ (thn (ha.run pins s σ H (fun v H1 => Gr H H1 ∧ (tyO CC fts).p H1 v) I ⟨q.1, fun v H1 g z => ⟨g, z⟩⟩) fun u s1 ⟨y, H1, I1, ry, g1, hy⟩ => ?_) ht
  obtain ⟨o1, C, dx, fs, ft, e1, hC, h3, h4, h5⟩ := id hy
  subst e1
  cases (show u = Value.ref o1 from ry)
  refine StX.callO_with (thn (hx.run pos pins s1 σ H1 (fun vs H2 => Gr H1 H2 ∧ AllT H2 vs Ts) I1 ⟨q.1.mono g1, fun v H2 g z => ⟨g, z⟩⟩) fun us s2 ⟨vs, H2, I2, r, g2, hv⟩ => ?_) he hpl
  have hi : StX.InsC X H2 o1 C := .inr ⟨dx, fs, g2.keep o1 _ h3 True.intro⟩
  obtain ⟨ox, od, J, hd⟩ := StX.insC_at I2 hi
  refine ⟨⟨C, ox, od, J, hd⟩, StX.run_callO (E := E0) ⟨S.at_ C hC, S.fn, S.fi⟩ (F.raw hbd .nil) hr pass0 I2 hi r ⟨i, ?_, fun v H' g z => q.2 v H' ((g1.trans g2).trans g) z⟩⟩
  rw [hA, List.append_nil]
  exact ⟨(tyO CC fts).st g2 hy, hv⟩⟩
end
end K14
/-! LQ: +, - and | of instances of own classes, by types. -/
namespace K14
open PySem PySem.Spec PyProof.Rows L2
/-- an own operator: nm its name ("add", ..), f its def -/
structure OpF (K : PySem.W.Frag) (CC : Addr → Prop) (nm : String) (f : Addr) : Prop where
  first : ∀ C, CC C → PySem.W.selfFirst K C = true
  at_ : ∀ C, CC C → PySem.W.findIn K (.ref C) (PySem.dunder nm) = some (some (.ref f))
  ref : ∀ C, CC C → PySem.W.findIn K (.ref C) (dunderR nm) = some none
  fn : PySem.W.isFn K (.ref f) = true
/-- .. beside a tuple -/
structure OpTup (K : PySem.W.Frag) (CC : Addr → Prop) (nm : String) : Prop where
  fo : ∃ fo, PySem.W.findIn K (.type "tuple") (PySem.dunder nm) = some fo
  ro : ∃ ro, PySem.W.findIn K (.type "tuple") (dunderR nm) = some ro
  sub : ∀ C, CC C → PySem.W.subIn K (.type "tuple") (.ref C) = some false
section
variable {X : Cx} {ρ : Rho} {pos p : Pos} {a b : Expr} {k : Nat} {f : Addr} {fd : FuncData} {ps : List Str} {ι : Type} {A : ι → List Ty} {R : ι → Ty} {CC C2 : Addr → Prop} {fts fts2 : List (Str × Ty)} {ds : List PyData}
/-- o op (a tuple) -/
theorem te_binOT {i : ι} {op : Operator} (ha : PE X a (tT ρ (tyO CC fts))) (hb : PE X b (tT ρ (tyD X.K (.tuple ds)))) (S : OpF X.K CC op.info.2 f) (S2 : OpTup X.K CC op.info.2) (F : FnOk X.prog X.w X.K X.mg X.base CX0 k f fd ps (spT A R)) (hr : Room k X.A) (hbd : Binds X.K fd ps []) (hA : A i = [tyO CC fts, tyD X.K (.tuple ds)]) : PE X (.BinOp a op b pos) (tT ρ (R i)) := by
  have o : OpR X (binaryOp op) (fun x y H Q => (tyO CC fts).p H x ∧ (tyD X.K (.tuple ds)).p H y ∧ ∀ v H', Gr H H' → (R i).p H' v → Q v H') := by
    intro pins s σ H x y u w Q I rx ry ⟨hx, hy, q⟩
    obtain ⟨o1, C, dx, fs, ft, e1, hC, h3, h4, h5⟩ := id hx
    obtain ⟨o2, ys, e2, g1, g2⟩ := Dp.tup_ (show Dp X.K H y (.tuple ds) from hy)
    subst e1 e2
    cases (show u = Value.ref o1 from rx)
    cases (show w = Value.ref o2 from ry)
    obtain ⟨mA, O, _, _, _, _⟩ := ins_get I.hok h3
    obtain ⟨od, J, _⟩ := O.look
    obtain ⟨_, _, ⟨ob, p1, p2, _⟩, _⟩ := I.tuple (g1.sq (K := X.K))
    obtain ⟨fo, f1⟩ := S2.fo
    obtain ⟨ro, f2⟩ := S2.ro
    refine bin_T (T := "tuple") I.kIn J (p2 ▸ (PySem.W.Looks.ld p1).andThen .now) (S.first C hC) (S.at_ C hC) S.fn (S.ref C hC) (.inl rfl) f1 f2 (S2.sub C hC) (thn (run_T (i := i) F hr hbd I (vs := [.ref o1, .ref o2]) (.cons rfl (.cons rfl .nil)) (by rw [hA]; exact ⟨hx, hy, True.intro⟩)) fun v s' ⟨z, H', I', rz, g, pz⟩ => ?_)
    exact relV_back rz ⟨z, H', I', rz, q z H' g pz⟩
  exact te_op o ha hb fun x y H Q hx hy q => ⟨hx, hy, q⟩
/-- o op o2 -/
theorem te_binOO {i : ι} {op : Operator} {f2 : Addr} (ha : PE X a (tT ρ (tyO CC fts))) (hb : PE X b (tT ρ (tyO C2 fts2))) (S : OpF X.K CC op.info.2 f) (S2 : OpF X.K C2 op.info.2 f2) (cl2 : ∀ C D, CC C → C2 D → D = C ∨ PySem.W.subIn X.K (.ref D) (.ref C) = some false) (F : FnOk X.prog X.w X.K X.mg X.base CX0 k f fd ps (spT A R)) (hr : Room k X.A) (hbd : Binds X.K fd ps []) (hA : A i = [tyO CC fts, tyO C2 fts2]) : PE X (.BinOp a op b pos) (tT ρ (R i)) := by
  have o : OpR X (binaryOp op) (fun x y H Q => (tyO CC fts).p H x ∧ (tyO C2 fts2).p H y ∧ ∀ v H', Gr H H' → (R i).p H' v → Q v H') := by
    intro pins s σ H x y u w Q I rx ry ⟨hx, hy, q⟩
    obtain ⟨o1, C, dx, fs, ft, e1, hC, h3, h4, h5⟩ := id hx
    obtain ⟨o2, D, dy, gs, gt, e2, hD, g3, g4, g5⟩ := id hy
    subst e1 e2
    cases (show u = Value.ref o1 from rx)
    cases (show w = Value.ref o2 from ry)
    obtain ⟨mA, O, _, _, _, _⟩ := ins_get I.hok h3
    obtain ⟨od, J, _⟩ := O.look
    obtain ⟨mB, O2, _, _, _, _⟩ := ins_get I.hok g3
    obtain ⟨od2, J2, _⟩ := O2.look
    refine bin_C I.kIn J J2.type (S.first C hC) (S2.first D hD) (S.at_ C hC) S.fn (S.ref C hC) (.inl rfl) (S2.at_ D hD) (S2.ref D hD) (.inl rfl) (cl2 C D hC hD) (thn (run_T (i := i) F hr hbd I (vs := [.ref o1, .ref o2]) (.cons rfl (.cons rfl .nil)) (by rw [hA]; exact ⟨hx, hy, True.intro⟩)) fun v s' ⟨z, H', I', rz, g, pz⟩ => ?_)
    exact relV_back rz ⟨z, H', I', rz, q z H' g pz⟩
  exact te_op o ha hb fun x y H Q hx hy q => ⟨hx, hy, q⟩
end
end K14
/-! LS: set(xs) of texts, sorted(set). -/
namespace K14
open PySem PySem.Spec PyProof.Rows L2
open PySem.Froz (SD sObj TxOk addTx tailTx)

/-! ### what a set of texts is -/
/-- at a: a set, its members l -/
structure Stx (P : Program) (w : World) (h : Heap) (a : Addr) (l : List Str) : Prop where
  ex : ∃ D : SD, h.get? a = some (sObj "set" D) ∧ TxOk P w D l ∧ Ris D.2.2.place.toList ∧ (w.params.followText "set-order" = true ∨ D.2.2.led = true)
  nd : l.Nodup
  len : l.length < 1000
theorem bnd1000 : 1000 ≤ scanBound := by decide
abbrev withS (w : World) (h : Heap) : Heap := h.push (sObj "set" (#[], 0, .fresh 0 0 (!w.params.followText "set-order")))
abbrev emptyS (w : World) : SD := (#[], 0, .fresh 0 0 (!w.params.followText "set-order"))
section
variable {P : Program} {w : World} {h h' : Heap} {a : Addr} {l : List Str}
theorem Stx.at (R : Stx P w h a l) (k : ∀ o, h.get? a = some o → h'.get? a = some o) : Stx P w h' a l := by
  obtain ⟨D, h1, h2⟩ := R.ex
  exact ⟨⟨D, k _ h1, h2⟩, R.nd, R.len⟩
theorem stx_empty (ho : h.get? a = some (sObj "set" (emptyS w))) : Stx P w h a [] := by
  refine ⟨⟨_, ho, .nil (by rfl), List.Pairwise.nil, ?_⟩, .nil, by decide⟩
  show _ ∨ (!w.params.followText "set-order") = true
  cases w.params.followText "set-order" with
  | true => exact .inl rfl
  | false => exact .inr rfl
theorem tail_keeps {ep : Nat} {es : Array (Int × Value)} {t : SetTable} {b : Bool} (r : Ris t.place.toList) : Ris (tailTx ep es t b).2.2.place.toList ∧ (tailTx ep es t b).2.2.led = t.led := by
  unfold tailTx
  split
  · exact ⟨relayAll_ris _ _ _, relayAll_led _ _ _⟩
  · exact ⟨r, rfl⟩
theorem add_keeps {hs : Int} {v : Value} {D : SD} (r : Ris D.2.2.place.toList) : Ris (addTx hs v D).2.2.place.toList ∧ (addTx hs v D).2.2.led = D.2.2.led := by
  unfold addTx
  have r1 := layNew_ris D.2.2 D.1 hs v r
  have l1 := layNew_led D.2.2 D.1 hs v
  split
  · obtain ⟨a1, a2⟩ := tail_keeps (ep := D.2.1) (es := (layNew D.2.2 D.1 hs v).1) (t := { (layNew D.2.2 D.1 hs v).2.1 with plain := false }) (b := (layNew D.2.2 D.1 hs v).2.2.1) r1
    exact ⟨a1, a2.trans l1⟩
  · obtain ⟨a1, a2⟩ := tail_keeps (ep := D.2.1) (es := (layNew D.2.2 D.1 hs v).1) (t := (layNew D.2.2 D.1 hs v).2.1) (b := (layNew D.2.2 D.1 hs v).2.2.1) r1
    exact ⟨a1, a2.trans l1⟩
end
section
variable {P : Program} {w : World} {A : Around} {E : Value → Shared → Prop} {s : Shared} {a : Addr} {l : List Str}
theorem stx_add {k : Str} {u : Tok} {Q : Bool → Shared → Prop} (R : Stx P w s.heap a l) (hl : l.length + 1 < 1000)
    (hQ : ∀ (b : Bool) h' l', Heap.SameBut a s.heap h' → Stx P w h' a l' → l'.length ≤ l.length + 1 → (∀ j, j ∈ l' ↔ j ∈ l ∨ j = k) → Q b { s with heap := h' }) : wpAny (model P w) A (setAddHashed a (.str k u) (hashStr w k)) Q E s := by
  obtain ⟨D, ho, F, hr, hled⟩ := R.ex
  have bb := bnd1000
  by_cases hk : k ∈ l
  · obtain ⟨es, ep, t⟩ := D
    have hsz : es.size = l.length := F.sz
    have el : ElemsOf (strKind P w) es.toList := F.el
    have hkey := PySem.Froz.is_str (P := P) (w := w) k u
    obtain ⟨e, he, hi⟩ := (F.mem k).mp hk
    unfold setAddHashed setAddHashedIn
    refine wpAny_holding (wpAny_bind (wpAny_setState_of ho rfl F.fit ?_))
    dsimp only
    rw [byScan_of (knd := strKind P w) rfl (show es.size < scanBound by omega) el]
    simp only [↓reduceIte]
    unfold setAddByScan
    refine wpAny_bind (wpAny_bind (wpAny_rule (wpAny_bind (wpAny_setScan_of (knd := strKind P w) (k := k) hkey ho rfl F.fit el ?_))))
    cases hf : List.findIdx? (fun e => (strKind P w).is k e.2) es.toList with
    | some j => exact wpAny_pure (wpAny_pure (hQ _ s.heap l (Heap.SameBut.refl a s.heap) R (Nat.le_succ _) fun j => ⟨.inl, fun z => z.elim id fun q => q ▸ hk⟩))
    | none =>
      have c := List.findIdx?_eq_none_iff.mp hf e he
      rw [hi] at c
      cases c
  · refine PySem.Froz.add_x ho F hk (by omega) (hQ _ _ (k :: l) (Heap.SameBut.update s.heap a _) ⟨⟨_, PySem.Froz.get_upd _ ho rfl, PySem.Froz.add_ok u F, (add_keeps hr).1, hled.imp id fun z => (add_keeps hr).2.trans z⟩, List.nodup_cons.mpr ⟨hk, R.nd⟩, by rw [List.length_cons]; omega⟩ (Nat.le_refl _) fun j => ?_)
    rw [List.mem_cons]
    exact Or.comm
theorem stx_loop {I : Addr} {fp wr : List Addr} {G : Array GenState → Array GenState → Prop} {n : Nat} {Pv : Nat → Value → Prop} {St : Nat → Shared → Prop} {R : Result → Shared → Prop} (W : WalksS P w A.in1 I fp wr G n Pv St) (S : Addr) (hSf : S ∉ fp) (xs : List Str) (hn : n = xs.length) (hb : xs.length < 900) (hv : ∀ i v, Pv i v → ∃ z t, xs[i]? = some z ∧ v = .str z t) :
    ∀ (m i : Nat) (s : Shared), n - i = m → i ≤ n → St i s → (∃ l, l.length ≤ i ∧ Stx P w s.heap S l ∧ ∀ j, j ∈ l ↔ j ∈ xs.take i) →
      (∀ s' l, Moved (S :: wr) G s s' → Stx P w s'.heap S l → (∀ j, j ∈ l ↔ j ∈ xs) → R (.ok (.ret .none)) s') → codeAny (model P w) A (.builtin "set.update.loop" ⟨[.ref S, .ref I], []⟩) R s := by
  have nw : S ∉ wr := fun z => hSf (W.sub _ z)
  intro m
  induction m with
  | zero =>
    intro i s e hi st ⟨l, c, X, q⟩ fin
    obtain rfl : i = n := by omega
    refine codeAny_builtin F.entry_set_update_loop (by
      rw [Around.under_plainId F.plain_set_update_loop _]
      exact wpAny_bind (W.done s _ _ st fun s' mv => wpAny_pure (fin s' l (mv.mono fun b z => List.mem_cons_of_mem _ z) (X.at fun o z => mv.heap S o nw z) fun j => (q j).trans (by rw [List.take_of_length_le (by omega)]))))
  | succ m ih =>
    intro i s e hi st ⟨l, c, X, q⟩ fin
    have lt : i < n := by omega
    refine codeAny_builtin F.entry_set_update_loop ?_
    rw [Around.under_plainId F.plain_set_update_loop _]
    refine wpAny_bind (W.item i s _ _ lt st fun v s' pv st' mv => ?_)
    obtain ⟨z, t, hz, rfl⟩ := hv i v pv
    have X' : Stx P w s'.heap S l := X.at fun o y => mv.heap S o nw y
    refine wpAny_bind (wpAny_holding (wpAny_holding (wpAny_bind ((strKind P w).pyHash (k := z) (PySem.Froz.is_str _ _) (stx_add (s := { s' with toks := s'.toks + 1 }) X' (by omega) fun b h' l' sb X2 c2 q2 => ?_)))))
    refine wpAny_pure ⟨plainId_quiet F.plain_set_update_loop _, ih (i + 1) _ (by omega) lt (W.frame _ s' _ _ st' (Nat.le_succ _) fun b hb o y => ?_) ⟨l', by omega, X2, fun j => ?_⟩ fun s2 l2 mv2 X3 q3 => fin s2 l2 (Moved.trans W.gtrans ((mv.mono fun b z => List.mem_cons_of_mem _ z).then_heap (Nat.le_succ _) fun b o hb y => ?_) mv2) X3 q3⟩
    · rw [sb.2 b fun y' => hSf (y' ▸ hb)]
      exact y
    · rw [q2 j, q j, List.take_add_one, hz]
      simp [List.mem_append]
    · rw [sb.2 b fun y' => hb (by rw [y']; exact List.mem_cons_self)]
      exact y
theorem stx_list {l : Addr} {items : Array Value} (xs : List Str) {Q : Value → Shared → Prop} (hh : A.handled = none) (hl : s.heap.IsList l items) (hit : StrsAre items.toList xs) (hb : xs.length < 900)
    (h : ∀ (h' : Heap) (tk : Nat) (ys : List Str), Stx P w h' s.heap.objs.size ys → (∀ j, j ∈ ys ↔ j ∈ xs) → (∀ b o, s.heap.get? b = some o → h'.get? b = some o) → Q (.ref s.heap.objs.size) { s with heap := h', toks := tk }) :
    wpAny (model P w) A (call (.type "set") [.ref l]) Q E s := by
  have isz : items.size = xs.length := by
    have q := StrsAre.length hit
    rw [Array.length_toList] at q
    exact q
  obtain ⟨c, tl, hmro⟩ := F.called_set.mro
  have g1 := F.called_set.made
  have g2 := F.called_set.sub
  have g3 := F.called_set.notType
  have g4 := F.called_set.canCreate
  have g5 := F.typeCall_set_1 (.ref l)
  refine wpAny_call (codeAny_of_tree (wpAny_pure ⟨Code.quiet_builtin _ (by decide +kernel), codeAny_builtin F.entry_type_call ?_⟩))
  rw [Around.under_plain (weight_type_call_type "set" [.ref l] []) rfl]
  repeat (any_goals (first | assumption | wp_step))
  refine codeAny_mono (code_set_led1 (.ref l) (E := E) (Q₁ := fun obj s₁ => obj = .ref s.heap.objs.size ∧ s₁ = { s with heap := withS w s.heap }) ⟨rfl, rfl⟩) fun r s₁ hr => ?_
  match r, hr with
  | .error e, hr => exact hr
  | .ok .next, hr => exact hr.elim
  | .ok .brk, hr => exact hr.elim
  | .ok .cont, hr => exact hr.elim
  | .ok (.ret obj), hr =>
    obtain ⟨rfl, rfl⟩ := hr
    have hS : (withS w s.heap).get? s.heap.objs.size = some (sObj "set" (emptyS w)) := Heap.get?_push_size _ rfl
    have hT : Shared.TypeIs { s with heap := withS w s.heap } (.ref s.heap.objs.size) "set" := ⟨_, hS, rfl⟩
    have g6 := F.called_set.init.lookup
    have g7 := F.called_set.init.bind (.ref s.heap.objs.size)
    repeat (any_goals (first | assumption | wp_step))
    refine codeAny_mono (codeAny_call_builtin (R := wants (fun r s₂ => r = .none ∧ ∃ h' tk ys, s₂ = { s with heap := h', toks := tk } ∧ Stx P w h' s.heap.objs.size ys ∧ (∀ j, j ∈ ys ↔ j ∈ xs) ∧ ∀ b o, s.heap.get? b = some o → h'.get? b = some o) E) F.called_set.init.plain F.entry_set_init (check_set_init_1 hT ?_)) fun r₂ s₂ hr₂ => ?_
    · have old : ∀ b o, s.heap.get? b = some o → (withS w s.heap).get? b = some o := fun b o e => Heap.get?_push_of_some _ e
      have hl1 : (withS w s.heap).IsList l items := hl.push _
      obtain ⟨⟨ocls, odict, odata, oslots⟩, hol, hcl, nl, hdl⟩ := id hl
      simp only at hcl hdl
      subst hcl hdl
      have hol' := old _ _ hol
      have k1 := F.sub_list_set
      have k2 := F.sub_list_frozenset
      have k3 : (Value.type "list" == Value.type "dict") = false := by decide
      unfold Builtin.«set.__init__» noKeywords Builtin.Frozenset.updateFrom
      generalize hPI : pyIter = PI
      wp_walk
      subst hPI
      refine wpAny_pyIter_list hl1 (wpAny_bind (wpAny_runValue ?_))
      have ll : l < s.heap.objs.size := Heap.lt_size hol
      have z1 : (withS w s.heap).objs.size = s.heap.objs.size + 1 := Heap.size_push ..
      have nI : l ≠ (withS w s.heap).objs.size := by
        rw [z1]
        exact Nat.ne_of_lt (Nat.lt_succ_of_lt ll)
      have nS : s.heap.objs.size ∉ [(withS w s.heap).objs.size, l] := by
        intro z
        rcases List.mem_cons.mp z with z | z
        · have z2 : s.heap.objs.size = (withS w s.heap).objs.size := z
          rw [z1] at z2
          exact Nat.ne_of_lt (Nat.lt_succ_self _) z2
        · exact Nat.ne_of_gt ll (List.mem_singleton.mp z)
      refine stx_loop ((Walks.list (by simp [hh]) _ l nI items).toS) s.heap.objs.size nS xs isz hb (fun i v hv => ?_) (items.size - 0) 0 _ (by omega) (Nat.zero_le _) ⟨⟨_, Heap.get?_push_size _ rfl, rfl, rfl⟩, hl1.push _⟩ ⟨[], Nat.le_refl 0, stx_empty (Heap.get?_push_of_some _ hS), fun j => by simp⟩ fun s' ys mv X q => ?_
      · have hi : i < xs.length := by rw [← isz]; exact (Array.getElem?_eq_some_iff.mp hv).1
        obtain ⟨t, e⟩ := SS.strs_at hit i v (by rw [Array.getElem?_toList]; exact hv)
        refine ⟨xs[i], t, List.getElem?_eq_getElem hi, ?_⟩
        rw [e, List.getD_eq_getElem?_getD, List.getElem?_eq_getElem hi]
        rfl
      · obtain ⟨h', g', d', tk', os'⟩ := s'
        obtain rfl : g' = s.gens := mv.gens
        obtain rfl : d' = s.drawn := mv.drawn
        obtain rfl : os' = s.os := mv.os
        show wpAny _ _ _ _ _ _
        refine wpAny_pure ?_
        show wpAny _ _ (ret Value.none) _ _ _
        refine wpAny_pure ⟨rfl, h', tk', ys, rfl, X, q, fun b o e => ?_⟩
        have hb0 := Heap.lt_size e
        refine mv.heap b o (fun z => ?_) (Heap.get?_push_of_some _ (old b o e))
        rcases List.mem_cons.mp z with z | z
        · exact Nat.ne_of_lt hb0 z
        · have z2 : b = (withS w s.heap).objs.size := List.mem_singleton.mp z
          rw [z1] at z2
          exact Nat.ne_of_lt (Nat.lt_succ_of_lt hb0) z2
    · match r₂, hr₂ with
      | .error e, hr₂ => exact hr₂
      | .ok .next, hr₂ => exact hr₂.elim
      | .ok .brk, hr₂ => exact hr₂.elim
      | .ok .cont, hr₂ => exact hr₂.elim
      | .ok (.ret r), hr₂ =>
        obtain ⟨rfl, h', tk, ys, rfl, X, q, k'⟩ := hr₂
        repeat (any_goals (first | assumption | wp_step))
        exact h _ _ _ X q k'
theorem stx_tuple {l : Addr} {items : Array Value} (xs : List Str) {Q : Value → Shared → Prop} (hh : A.handled = none) (hl : s.heap.IsTuple l items) (hit : StrsAre items.toList xs) (hb : xs.length < 900)
    (h : ∀ (h' : Heap) (tk : Nat) (ys : List Str), Stx P w h' s.heap.objs.size ys → (∀ j, j ∈ ys ↔ j ∈ xs) → (∀ b o, s.heap.get? b = some o → h'.get? b = some o) → Q (.ref s.heap.objs.size) { s with heap := h', toks := tk }) :
    wpAny (model P w) A (call (.type "set") [.ref l]) Q E s := by
  have isz : items.size = xs.length := by
    have q := StrsAre.length hit
    rw [Array.length_toList] at q
    exact q
  obtain ⟨c, tl, hmro⟩ := F.called_set.mro
  have g1 := F.called_set.made
  have g2 := F.called_set.sub
  have g3 := F.called_set.notType
  have g4 := F.called_set.canCreate
  have g5 := F.typeCall_set_1 (.ref l)
  refine wpAny_call (codeAny_of_tree (wpAny_pure ⟨Code.quiet_builtin _ (by decide +kernel), codeAny_builtin F.entry_type_call ?_⟩))
  rw [Around.under_plain (weight_type_call_type "set" [.ref l] []) rfl]
  repeat (any_goals (first | assumption | wp_step))
  refine codeAny_mono (code_set_led1 (.ref l) (E := E) (Q₁ := fun obj s₁ => obj = .ref s.heap.objs.size ∧ s₁ = { s with heap := withS w s.heap }) ⟨rfl, rfl⟩) fun r s₁ hr => ?_
  match r, hr with
  | .error e, hr => exact hr
  | .ok .next, hr => exact hr.elim
  | .ok .brk, hr => exact hr.elim
  | .ok .cont, hr => exact hr.elim
  | .ok (.ret obj), hr =>
    obtain ⟨rfl, rfl⟩ := hr
    have hS : (withS w s.heap).get? s.heap.objs.size = some (sObj "set" (emptyS w)) := Heap.get?_push_size _ rfl
    have hT : Shared.TypeIs { s with heap := withS w s.heap } (.ref s.heap.objs.size) "set" := ⟨_, hS, rfl⟩
    have g6 := F.called_set.init.lookup
    have g7 := F.called_set.init.bind (.ref s.heap.objs.size)
    repeat (any_goals (first | assumption | wp_step))
    refine codeAny_mono (codeAny_call_builtin (R := wants (fun r s₂ => r = .none ∧ ∃ h' tk ys, s₂ = { s with heap := h', toks := tk } ∧ Stx P w h' s.heap.objs.size ys ∧ (∀ j, j ∈ ys ↔ j ∈ xs) ∧ ∀ b o, s.heap.get? b = some o → h'.get? b = some o) E) F.called_set.init.plain F.entry_set_init (check_set_init_1 hT ?_)) fun r₂ s₂ hr₂ => ?_
    · have old : ∀ b o, s.heap.get? b = some o → (withS w s.heap).get? b = some o := fun b o e => Heap.get?_push_of_some _ e
      have hl1 : (withS w s.heap).IsTuple l items := hl.push _
      obtain ⟨⟨ocls, odict, odata, oslots⟩, hol, hcl, nl, hdl⟩ := id hl
      simp only at hcl hdl
      subst hcl hdl
      have hol' := old _ _ hol
      have k1 := F.sub_tuple_set
      have k2 := F.sub_tuple_frozenset
      have k3 : (Value.type "tuple" == Value.type "dict") = false := by decide
      unfold Builtin.«set.__init__» noKeywords Builtin.Frozenset.updateFrom
      generalize hPI : pyIter = PI
      wp_walk
      subst hPI
      refine wpAny_pyIter_tuple hl1 (wpAny_bind (wpAny_runValue ?_))
      have ll : l < s.heap.objs.size := Heap.lt_size hol
      have z1 : (withS w s.heap).objs.size = s.heap.objs.size + 1 := Heap.size_push ..
      have nI : l ≠ (withS w s.heap).objs.size := by
        rw [z1]
        exact Nat.ne_of_lt (Nat.lt_succ_of_lt ll)
      have nS : s.heap.objs.size ∉ [(withS w s.heap).objs.size, l] := by
        intro z
        rcases List.mem_cons.mp z with z | z
        · have z2 : s.heap.objs.size = (withS w s.heap).objs.size := z
          rw [z1] at z2
          exact Nat.ne_of_lt (Nat.lt_succ_self _) z2
        · exact Nat.ne_of_gt ll (List.mem_singleton.mp z)
      refine stx_loop ((Walks.tuple (by simp [hh]) _ l nI items).toS) s.heap.objs.size nS xs isz hb (fun i v hv => ?_) (items.size - 0) 0 _ (by omega) (Nat.zero_le _) ⟨⟨_, Heap.get?_push_size _ rfl, rfl, rfl⟩, hl1.push _⟩ ⟨[], Nat.le_refl 0, stx_empty (Heap.get?_push_of_some _ hS), fun j => by simp⟩ fun s' ys mv X q => ?_
      · have hi : i < xs.length := by rw [← isz]; exact (Array.getElem?_eq_some_iff.mp hv).1
        obtain ⟨t, e⟩ := SS.strs_at hit i v (by rw [Array.getElem?_toList]; exact hv)
        refine ⟨xs[i], t, List.getElem?_eq_getElem hi, ?_⟩
        rw [e, List.getD_eq_getElem?_getD, List.getElem?_eq_getElem hi]
        rfl
      · obtain ⟨h', g', d', tk', os'⟩ := s'
        obtain rfl : g' = s.gens := mv.gens
        obtain rfl : d' = s.drawn := mv.drawn
        obtain rfl : os' = s.os := mv.os
        show wpAny _ _ _ _ _ _
        refine wpAny_pure ?_
        show wpAny _ _ (ret Value.none) _ _ _
        refine wpAny_pure ⟨rfl, h', tk', ys, rfl, X, q, fun b o e => ?_⟩
        have hb0 := Heap.lt_size e
        refine mv.heap b o (fun z => ?_) (Heap.get?_push_of_some _ (old b o e))
        rcases List.mem_cons.mp z with z | z
        · exact Nat.ne_of_lt hb0 z
        · have z2 : b = (withS w s.heap).objs.size := List.mem_singleton.mp z
          rw [z1] at z2
          exact Nat.ne_of_lt (Nat.lt_succ_of_lt hb0) z2
    · match r₂, hr₂ with
      | .error e, hr₂ => exact hr₂
      | .ok .next, hr₂ => exact hr₂.elim
      | .ok .brk, hr₂ => exact hr₂.elim
      | .ok .cont, hr₂ => exact hr₂.elim
      | .ok (.ret r), hr₂ =>
        obtain ⟨rfl, h', tk, ys, rfl, X, q, k'⟩ := hr₂
        repeat (any_goals (first | assumption | wp_step))
        exact h _ _ _ X q k'
/-! ### sorted(set) -/
theorem strs_of : ∀ (l : List (Int × Value)), ElemsOf (strKind P w) l → ∃ ks : List Str, StrsAre (l.map (·.2)) ks ∧ ∀ k, k ∈ ks ↔ ∃ e ∈ l, (strKind P w).is k e.2 = true
  | [], _ => ⟨[], .nil, fun k => by simp⟩
  | e :: l, h => by
    obtain ⟨ks, h1, h2⟩ := strs_of l fun x hx => h x (List.mem_cons_of_mem _ hx)
    obtain ⟨⟨k, hk, _⟩, _⟩ := h e List.mem_cons_self
    obtain ⟨n, v⟩ := e
    have hk' : Value.isStrOf k v = true := hk
    have ex : ∃ t, v = .str k t := by
      cases v with
      | str z t =>
        have q : z = k := by simpa [Value.isStrOf] using hk'
        exact ⟨t, q ▸ rfl⟩
      | _ => simp [Value.isStrOf] at hk'
    obtain ⟨t, rfl⟩ := ex
    refine ⟨k :: ks, .cons k t h1, fun j => ?_⟩
    rw [List.mem_cons, h2 j]
    constructor
    · rintro (z | ⟨e, he, q⟩)
      · exact ⟨(n, .str k t), List.mem_cons_self, by subst z; exact PySem.Froz.is_str j t⟩
      · exact ⟨e, List.mem_cons_of_mem _ he, q⟩
    · rintro ⟨e, he, q⟩
      rcases List.mem_cons.mp he with z | z
      · subst z
        have q' : Value.isStrOf j (.str k t) = true := q
        exact .inl ((show k = j by simpa [Value.isStrOf] using q').symm)
      · exact .inr ⟨e, z, q⟩
theorem strs_perm {vs us : List Value} {ks : List Str} (h : StrsAre us ks) (p : vs.Perm us) : ∃ js : List Str, StrsAre vs js ∧ js.Perm ks := by
  induction p generalizing ks with
  | nil => exact ⟨ks, h, .refl _⟩
  | cons x p ih =>
    cases h with
    | cons k t h =>
      obtain ⟨js, h1, h2⟩ := ih h
      exact ⟨k :: js, .cons k t h1, h2.cons _⟩
  | swap x y l =>
    cases h with
    | cons k t h =>
      cases h with
      | cons k2 t2 h => exact ⟨k2 :: k :: _, .cons k2 t2 (.cons k t h), .swap _ _ _⟩
  | trans p1 p2 ih1 ih2 =>
    obtain ⟨js, h1, h2⟩ := ih2 h
    obtain ⟨is, h3, h4⟩ := ih1 h1
    exact ⟨is, h3, h4.trans h2⟩
theorem stx_sorted {Q : Value → Shared → Prop} (R : Stx P w s.heap a l) (hh : A.handled = none) (h64 : l.length < 64)
    (hQ : ∀ s' p (out : Array Value) (c : Nat) (ys : List Str), (∀ b o, s.heap.get? b = some o → s'.heap.get? b = some o) → s'.gens = s.gens → s'.os = s.os → s.heap.objs.size ≤ p → s'.heap.get? p = some (seqObj "list" out c) → StrsAre out.toList ys → sortedS ys = true → (∀ k, k ∈ ys ↔ k ∈ l) → ys.length = l.length → Q (.ref p) s') :
    wpAny (model P w) A (call (.builtin "sorted") [.ref a]) Q E s := by
  obtain ⟨⟨es, ep, t⟩, ho, F, hr, hled⟩ := R.ex
  have hsz : es.size = l.length := F.sz
  have bb := bnd1000
  obtain ⟨ks, k1, k2⟩ := strs_of es.toList F.el
  refine Calls.call_function_entry kind_sorted plain_sorted entry_sorted (args_sorted1 _) ?_
  unfold Builtin.«sorted»
  refine wpAny_bind (m := checkCount "sorted" 1 1 _) (wpAny_pure (wpAny_bind (collect_set (A := A.in1) hh ⟨_, ho, rfl, rfl⟩ F.fit (show es.size < scanBound by omega) hr hled fun s1 vs kp hz e1 e2 pm => ?_)))
  obtain ⟨js, j1, j2⟩ := strs_perm k1 pm
  have hvl : vs.length = l.length := by rw [pm.length_eq, List.length_map, Array.length_toList, hsz]
  refine wpAny_bind (wpAny_newList ?_ (by rw [hvl, sizeLine_eq]; omega))
  have hoL : (s1.heap.push (seqObj "list" vs.toArray 0)).get? s1.heap.objs.size = some (seqObj "list" vs.toArray 0) := Heap.get?_push_size _ rfl
  refine wpAny_bind (wpAny_holding (wpAny_call_entry slot_list_sort ⟨_, hoL, rfl⟩ entry_list_sort (list_sort_treeK strKind_oneLt hoL j1.keysOf (fun v₁ v₂ rest e => keyKind_strs (by rw [← e]; exact j1)) (by rw [hvl]; exact h64) fun st' a1 a2 => ⟨_, rfl, ?_⟩) (args_list_sort _)))
  obtain ⟨ys, y1, y2, y3⟩ := sorted_out_str j1 a1 a2
  obtain ⟨c, hc⟩ := sortedHeap_at (vs := vs) (out := (arrOf st').map (·.2)) hoL
  refine wpAny_pure ⟨_, rfl, hQ _ s1.heap.objs.size _ c ys (fun b u e => ?_) e1 e2 hz hc y1 y3 (fun k => ?_) ?_⟩
  · have q := kp b u e
    have hlt := Heap.lt_size q
    show (sortedHeap (s1.heap.push (seqObj "list" vs.toArray 0)) s1.heap.objs.size vs _).get? b = some u
    rw [sortedHeap_old (Nat.ne_of_lt hlt) (by rw [size_push']; exact Nat.lt_succ_of_lt hlt)]
    exact Heap.get?_push_of_some _ q
  · rw [y2.mem_iff, j2.mem_iff, k2 k]
    exact (F.mem k).symm
  · rw [y2.length_eq, j2.length_eq, ← StrsAre.length k1, List.length_map, Array.length_toList, hsz]
end
end K14
/-! LT: t.index(rule), tuple(sorted(set(texts))), str(o), C.of(e). -/
namespace K14
open PySem PySem.Spec PyProof.Rows L2
/-! ### t.index(x), t a tuple of rules -/
theorem isRs_rules {rs : List Rule} (h : rs ≠ []) : isRs (rs.map pairD) = true := by
  cases rs with
  | nil => exact absurd rfl h
  | cons r rs =>
    unfold isRs
    rw [Bool.and_eq_true]
    refine ⟨rfl, ?_⟩
    rw [List.all_map]
    exact List.all_eq_true.mpr fun _ _ => rfl
section
variable {X : Cx} {ρ : Rho} {o e : Expr} {apos cpos : Pos} {rs : List Rule} {p : Rule} {j : Nat}
theorem te_indexR (hu : X.A.units + 65 < cLine) (ho : PE X o (tT ρ (tyD X.K (rulesD rs)))) (he : PE X e (tT ρ (tyD X.K (pairD p)))) (nd : rs.Nodup) (hj : rs[j]? = some p) (hlow : ∀ q ∈ rs, Low q.1 ∧ Low q.2)
    (hbase : attributeBase o "index" X.env (eval o X.env) = eval o X.env := by rfl)
    (hfew : ((backTo cpos (starEach [e] X.env)).all (fun x => !x.1) && (backToKw cpos (keywordEach [] X.env)).all (fun x => x.1.isSome) && decide ([e].length + ([] : List Keyword).length + (if ([] : List Keyword).isEmpty then 0 else 1) < 30)) = true := by rfl)
    (hline : (apos.endLine == cpos.line) = true := by rfl) (hs : starEach [e] X.env = (false, eval e X.env) :: starEach [] X.env := by rfl) : PE X (.Call (.Attribute o "index" apos) [e] [] cpos) (tT ρ (dI X j)) := ⟨fun pins s σ H Q I q => by
  have hp : p ∈ rs := List.mem_of_getElem? hj
  refine wpAny_Call_method_late hbase hfew hline rfl (thn (ho.run pins s σ H (fun v H1 => Gr H H1 ∧ (tyD X.K (rulesD rs)).p H1 v) I ⟨q.1, fun v H1 g z => ⟨g, z⟩⟩) fun v s1 ⟨x, H1, I1, r1, g1, hx⟩ => ?_)
  obtain ⟨a, xs, rfl, h1, h2⟩ := Dp.tup_ (show Dp X.K H1 x (.tuple (rs.map pairD)) from hx)
  rw [isRs_rules (fun z => by rw [z] at hp; cases hp)] at h1
  obtain ⟨u, hu0, hH⟩ := h1
  have hH : H1 a = some (.frz u (.tup xs)) := hH
  obtain rfl : v = Value.ref a := r1
  obtain ⟨hget, _, its0, _, _⟩ := (show ObjOk X.prog X.w H1 s1.heap a (.frz u (.tup xs)) from I1.hok a _ hH)
  obtain ⟨its, _, ht, _⟩ := I1.tuple (a := a) (xs := xs) (.inl (.inr ⟨u, hH⟩))
  refine ⟨"tuple", "tuple.index", PySem.F.plainAttrs_tuple, PySem.F.slot_tuple_index, PySem.F.type_tuple_index, ht.typeIs, fun b eb => ?_, ?_⟩
  · cases eb
    exact ⟨u, hget, hu0⟩
  have hA := (ta_one he hs).run cpos pins s1 σ H1 (fun vs H2 => Gr H1 H2 ∧ AllT H2 vs [tyD X.K (pairD p)]) I1 ⟨q.1.mono g1, fun v H2 g z => ⟨g, z⟩⟩
  rw [hs] at hA ⊢
  refine Calls.callWith_builtin (by rfl) (Calls.evalArgs_plain (thn hA fun us s2 ⟨ys, H2, I2, r2, g2, hys⟩ => ?_))
  match ys, hys with
  | [y], hys =>
  have hy := hys.1
  obtain ⟨w, rfl, rw2⟩ := vals1 r2
  have hH2 := g2.keep a _ hH True.intro
  have hx2 := Gr.dp g2 _ _ hx
  obtain ⟨bs, rd⟩ := L2.Dp.reads I2 (pairD p) y w (Dp.lib hy) rw2
  have sl : SeqAt.shaped (.tuple (rs.map pairD)) = true := (shD_rules hlow).shaped
  have sd : SeqAt.shaped (pairD p) = true := (shD_pair (hlow p hp).1 (hlow p hp).2).shaped
  have hxs : PyData.canLayAll0 (rs.map pairD) = true := SeqAt.canLay_of_shaped sl
  have hroom : X.A.units + 1 + min (PyData.depthAll (rs.map pairD)) (pairD p).depth < cLine := room_in sd hu
  obtain ⟨its2, rv, ⟨⟨cls, dd, data, sls⟩, hob, hc, n, hd⟩, hlen⟩ := I2.tuple (a := a) (xs := xs) (.inl (.inr ⟨u, hH2⟩))
  simp only at hc hd
  subst hc hd
  obtain ⟨as, h4⟩ := L2.Dp.readsAll I2 (rs.map pairD) xs its2 (DpAll.lib (Gr.dpAll g2 _ _ h2)) rv
  have hn : its2.length = (rs.map pairD).length := SeqAt.ReadsAll.length (rs.map pairD) its2 as h4
  have hmap : its2.map (SeqAt.readOf s2.heap) = rs.map pairD := SeqAt.readsAll_map (rs.map pairD) its2 as hxs h4
  obtain ⟨hjd, hjp⟩ := List.getElem?_eq_some_iff.mp hj
  have hjl : j < its2.toArray.size := by
    rw [List.size_toArray, hn, List.length_map]
    exact hjd
  have at_ : ∀ (m : Nat) (hm : m < its2.toArray.size), ∃ h : m < rs.length, SeqAt.readOf s2.heap its2.toArray[m] = pairD rs[m] := fun m hm => by
    have hml : m < its2.length := by simpa using hm
    have hmr : m < rs.length := by rw [hn, List.length_map] at hml; exact hml
    refine ⟨hmr, ?_⟩
    have e0 : (its2.map (SeqAt.readOf s2.heap))[m]? = some (pairD rs[m]) := by rw [hmap, List.getElem?_map, List.getElem?_eq_getElem hmr]; rfl
    rw [List.getElem?_map, List.getElem?_eq_getElem hml] at e0
    simpa using e0
  refine call_meets PySem.F.slot_tuple_index ⟨_, hob, rfl⟩ PySem.F.entry_tuple_index (PySem.F.args_tuple_index_2 _ _) (TI.tuple_indexAt a its2.toArray n dd sls w (fun u => PyData.eqv (SeqAt.readOf s2.heap u) (pairD p)) j hjl ?_ ?_)
    ⟨hob, SeqAt.items_eqAt (vs := its2.toArray) (show ReadsAll s2.heap its2.toArray.toList (rs.map pairD) as from h4) rd hxs (SeqAt.canLay_of_shaped sd) hroom, ⟨.int (j : Nat), H2, I2.tok _, ⟨_, rfl⟩, q.2 _ H2 (g1.trans g2) (Dp.int _)⟩⟩
  · obtain ⟨_, e1⟩ := at_ j hjl
    show PyData.eqv (SeqAt.readOf s2.heap its2.toArray[j]) (pairD p) = true
    rw [e1, eqv_pair, hjp]
    exact decide_eq_true rfl
  · intro m hm hmj
    obtain ⟨hmr, e1⟩ := at_ m hm
    show PyData.eqv (SeqAt.readOf s2.heap its2.toArray[m]) (pairD p) = false
    rw [e1, eqv_pair]
    refine decide_eq_false fun z => ?_
    rw [← hjp] at z
    exact absurd ((List.getElem_inj nd).mp z) (by omega)⟩
end
/-! ### sets of texts -/
def stxO (P : Program) (w : World) (a : Addr) (l : List Str) : HO := .ext fun h => Stx P w h a l
theorem stxO_ok {P : Program} {w : World} {H : Hp} {h : Heap} {a : Addr} {l : List Str} (R : Stx P w h a l) : ObjOk P w H h a (stxO P w a l) := by
  obtain ⟨D, ho, _⟩ := R.ex
  exact ⟨R, ⟨_, ho⟩, fun h1 h2 p k => p.at k⟩
/-- a set of these texts -/
def tyStx (P : Program) (w : World) (xs : List Str) : Ty := ⟨fun H v => ∃ a l, v = .ref a ∧ H a = some (stxO P w a l) ∧ ∀ j, j ∈ l ↔ j ∈ xs, fun e ⟨a, l, h1, h2, h3⟩ => ⟨a, l, h1, e.keep a _ h2 True.intro, h3⟩⟩
section
variable {X : Cx} {ρ : Rho} {e : Expr} {p pos : Pos} {xs ys : List Str}
theorem dpAll_strs {K : PySem.W.Frag} {H : Hp} : ∀ {xs : List V} {ys : List Str}, DpAll K H xs (ys.map .str) → xs = ys.map V.str
  | [], [], _ => rfl
  | _ :: _, y :: ys, h => by
    cases h with
    | cons h1 h2 => rw [Dp.str_ h1, dpAll_strs h2, List.map_cons]
theorem te_setOf {A : Ty} (hc : X.calm = true) (hm : X.mg "set" = none) (he : PE X e (tT ρ A)) (hA : ∀ H v, A.p H v → ∃ a, v = .ref a ∧ (SqL X.K H a (xs.map V.str) ∨ SqT X.K H a (xs.map V.str))) (hl : xs.length < 900) (hg : Gl X "set" := by rfl) (hs : starEach [e] X.env = [(false, eval e X.env)] := by rfl) :
    PE X (.Call (.Name "set" p) [e] [] pos) (tT ρ (tyStx X.prog X.w xs)) := by
  have cr : CallR X (.type "set") (fun vs H Q => ∃ v, vs = [v] ∧ A.p H v ∧ ∀ a l, H a = none → (∀ j, j ∈ l ↔ j ∈ xs) → Q (.ref a) (upd H a (stxO X.prog X.w a l))) := by
    intro pins s σ H vs us Q I r ⟨v, ev, hv, q⟩
    subst ev
    obtain ⟨u, rfl, rx⟩ := vals1 r
    obtain ⟨a, rfl, hq⟩ := hA H v hv
    obtain rfl : u = Value.ref a := rx
    have fin : ∀ (h' : Heap) (tk : Nat) (l : List Str), Stx X.prog X.w h' s.heap.objs.size l → (∀ j, j ∈ l ↔ j ∈ xs) → (∀ b o, s.heap.get? b = some o → h'.get? b = some o) → EP X pins σ Q (.ref s.heap.objs.size) { s with heap := h', toks := tk } := fun h' tk l R hj k =>
      ⟨.ref s.heap.objs.size, _, I.laid (a := s.heap.objs.size) (o := stxO X.prog X.w s.heap.objs.size l) (t' := tk) k (Nat.le_refl _) (stxO_ok R), rfl, q _ l (I.hok.fresh (Nat.le_refl _)) hj⟩
    rcases hq with hq | hq
    · obtain ⟨its, r', pl, hz⟩ := I.list hq
      exact stx_list xs (I.ok.hd hc) pl.isList (by simpa using Vals.strs r') hl fin
    · obtain ⟨its, r', pl, hz⟩ := I.tuple hq
      exact stx_tuple xs (I.ok.hd hc) pl (by simpa using Vals.strs r') hl fin
  exact te_t1 cr hm boot_set he (fun v H Q hv k => ⟨v, rfl, hv, fun a l hn hj => k _ _ (Gr.new hn) ⟨a, l, rfl, upd_same, hj⟩⟩) hg hs
theorem nodup_le {α : Type} [DecidableEq α] : ∀ {l ys : List α}, l.Nodup → (∀ j ∈ l, j ∈ ys) → l.length ≤ ys.length
  | [], _, _, _ => Nat.zero_le _
  | a :: l, ys, h, g => by
    obtain ⟨h1, h2⟩ := List.nodup_cons.mp h
    have ha : a ∈ ys := g a List.mem_cons_self
    have := nodup_le (l := l) (ys := ys.erase a) h2 fun j hj => (List.mem_erase_of_ne fun z : j = a => h1 (z ▸ hj)).mpr (g j (List.mem_cons_of_mem _ hj))
    have hl := List.length_erase_of_mem ha
    have hp := List.length_pos_of_mem ha
    rw [List.length_cons]
    omega
theorem nodup_of_le {α : Type} [DecidableEq α] : ∀ {l ys : List α}, l.Nodup → (∀ j ∈ l, j ∈ ys) → ys.length ≤ l.length → ys.Nodup
  | [], ys, _, _, c => by
    rw [List.length_eq_zero_iff.mp (Nat.le_zero.mp c)]
    exact .nil
  | a :: l, ys, h, g, c => by
    obtain ⟨h1, h2⟩ := List.nodup_cons.mp h
    have ha : a ∈ ys := g a List.mem_cons_self
    have sub : ∀ j ∈ l, j ∈ ys.erase a := fun j hj => (List.mem_erase_of_ne fun z : j = a => h1 (z ▸ hj)).mpr (g j (List.mem_cons_of_mem _ hj))
    have hl := List.length_erase_of_mem ha
    have hp := List.length_pos_of_mem ha
    rw [List.length_cons] at c
    have nd := nodup_of_le (l := l) (ys := ys.erase a) h2 sub (by omega)
    have na : a ∉ ys.erase a := fun z => by
      have := nodup_le (l := a :: l) (ys := ys.erase a) h fun j hj => by
        rcases List.mem_cons.mp hj with e | e
        · exact e ▸ z
        · exact sub j e
      rw [List.length_cons] at this
      omega
    exact (List.perm_cons_erase ha).nodup_iff.mpr (List.nodup_cons.mpr ⟨na, nd⟩)
/-- the texts of a set, in order -/
def tyAsc (K : PySem.W.Frag) (xs : List Str) : Ty := tyEx (fun ys : List Str => sortedS ys = true ∧ (∀ j, j ∈ ys ↔ j ∈ xs) ∧ ys.Nodup) (fun ys => tyTL K (ys.map .str))
theorem te_sortedX (hc : X.calm = true) (hm : X.mg "sorted" = none) (he : PE X e (tT ρ (tyStx X.prog X.w xs))) (hl : xs.length < 64) (hg : Gl X "sorted" := by rfl) (hs : starEach [e] X.env = [(false, eval e X.env)] := by rfl) :
    PE X (.Call (.Name "sorted" p) [e] [] pos) (tT ρ (tyAsc X.K xs)) := by
  have cr : CallR X (.builtin "sorted") (fun vs H Q => ∃ v, vs = [v] ∧ (tyStx X.prog X.w xs).p H v ∧ ∀ a ys, H a = none → sortedS ys = true → (∀ j, j ∈ ys ↔ j ∈ xs) → ys.Nodup → Q (.ref a) (upd H a (.lst (ys.map V.str)))) := by
    intro pins s σ H vs us Q I r ⟨v, ev, ⟨a, l, ea, hH, hj⟩, q⟩
    subst ev ea
    obtain ⟨u, rfl, rx⟩ := vals1 r
    obtain rfl : u = Value.ref a := rx
    have R : Stx X.prog X.w s.heap a l := (I.hok a _ hH).1
    have ll : l.length ≤ xs.length := nodup_le R.nd fun j z => (hj j).mp z
    refine stx_sorted R (I.ok.hd hc) (by omega) fun s' p out c ys k e1 e2 hz hp hS hsrt hm2 hlen => ?_
    have nd : ys.Nodup := nodup_of_le R.nd (fun j z => (hm2 j).mpr z) (Nat.le_of_eq hlen)
    have hn : H p = none := I.hok.fresh hz
    obtain ⟨hh, g, d, t, os⟩ := s'
    obtain rfl : g = s.gens := e1
    obtain rfl : os = s.os := e2
    have I1 : Inv X pins σ (upd H p (.lst (ys.map V.str))) { s with heap := hh, gens := s.gens, drawn := d, toks := t } := I.call (ch := []) (Un.laid k hz hn) (I.hok.laid k hz ⟨by rw [List.length_map, sizeLine_eq]; omega, out.toList, c, vals_of_strs hS, hp⟩) I.bare (fun _ z => nomatch z)
    exact ⟨.ref p, _, I1, rfl, q p ys hn hsrt (fun j => (hm2 j).trans (hj j)) nd⟩
  exact te_b1 cr hm boot_sorted he (fun v H Q hv k => ⟨v, rfl, hv, fun a ys hn h1 h2 h3 => k _ _ (Gr.new hn) ⟨ys, ⟨h1, h2, h3⟩, a, _, rfl, upd_same, dp_strs ys⟩⟩) hg hs
end
end K14
/-! LU: str(o), C.of(e) by types. -/
namespace K14
open PySem PySem.Spec PyProof.Rows L2
/-! ### str(o) by an own __str__ -/
section
open PySem.W
variable {prog : Program} {w : World} {A : Around} {E : Value → Shared → Prop} {s : Shared} {K : Frag} {x C f : Addr} {ox : Obj} {od : Option Obj}
theorem str_own {Q : Value → Shared → Prop} (hu : A.in1.in1.units < cLine) (X : K.In s.heap) (I : InstAt s.heap x ox C od) (hs : findIn K (.ref C) "__str__" = some (some (.ref f))) (hf : isFn K (.ref f) = true)
    (h : wpAny (model prog w) A.in1.in1 (call (.ref f) [.ref x]) (StrBack Q) E s) : wpAny (model prog w) A (call (.type "str") [.ref x]) Q E s := by
  have key : wpAny (model prog w) A.in1.in1 (PySem.Builtin.Str.strOf (.ref x)) (fun r s₁ => ∃ y u, r = .str y u ∧ Q r s₁) E s := by
    unfold PySem.Builtin.Str.strOf
    rw [show Builtin.Str.isExactStr (.ref x) = false from rfl]
    refine wpAny_bind (m := cRoomFor _ _) (wpAny_cRoomFor hu (wpAny_bind (m := callSpecial? (.ref x) (Str.ofString "__str__")) (special_fn X I hs (beq_iff_eq.mp hf) (wpAny_mono h (fun r s' z => ?_) fun _ _ y => y))))
    cases r <;> first | exact z.elim | exact wpAny_pure ⟨_, _, rfl, z⟩
  refine callType_codes (T := "str") (Bi := Builtin.«object.__init__») (Q₁ := fun r s₁ => ∃ y u, r = .str y u ∧ Q r s₁) PySem.F.called_str (PySem.F.typeCall_str_1 _) PySem.F.entry_object_init (codeAny_of_tree ?_) ?_
  · refine wpAny_bind (wpAny_of_eq (PySem.F.newCall_str_1 _) (wpAny_pure ⟨plainId_quiet (by decide +kernel) _, codeAny_builtin PySem.F.entry_str_new ?_⟩))
    rw [Around.under_plainId (by decide +kernel) _, str_new_tree]
    exact wpAny_bind (wpAny_pure (wpAny_bind (wpAny_of_eq isSubtype_str_str (wpAny_bind (wpAny_mono key (fun r s₁ hr => wpAny_pure hr) fun _ _ y => y)))))
  · rintro obj s₁ ⟨y, u, rfl, hq⟩
    exact ⟨typeIs_str _ _ _, PySem.F.args_object_init_2 _ _, object_init_meets PySem.F.called_str.init.lookup PySem.F.called_str.made (by decide) prog w A.in1 _ s₁ ⟨typeIs_str _ _ _, rfl, hq⟩⟩
end
section
variable {X : Cx} {pins : List (Addr × Obj)} {σ : L2.St} {H : Hp} {s : Shared} {k : Nat} {f : Addr} {fd : FuncData} {ps : List Str} {ι : Type} {A : ι → List Ty} {R : ι → Ty} {vs : List V} {us : List Value} {E' : Value → Shared → Prop}
theorem run_T2 {i : ι} (F : FnOk X.prog X.w X.K X.mg X.base CX0 k f fd ps (spT A R)) (hr : Room (k + 2) X.A) (hb : Binds X.K fd ps []) (I : Inv X pins σ H s) (r : Vals vs us) (h : AllT H vs (A i)) : wpAny (model X.prog X.w) X.A.in1.in1 (call (.ref f) us) (EP X pins σ (fun v H' => Gr H H' ∧ (R i).p H' v)) E' s := by
  have hl : (us ++ ([] : List Value)).length = ps.length := by
    rw [List.append_nil, ← r.length]
    exact F.len vs H (fun v H' => Gr H H' ∧ (R i).p H' v) E0 ⟨i, h, fun v H' g p => ⟨g, p⟩⟩
  have hbb := hb s us I.kIn hl
  rw [List.append_nil] at hbb
  refine wpAny_call (codeAny_mono (F.run X.A.in1.in1 X.stack s H ⟨us, []⟩ us vs (fun v H' => Gr H H' ∧ (R i).p H' v) E0 hr.in1.in1 I.env0.in1.in1 hbb r ⟨i, h, fun v H' g p => ⟨g, p⟩⟩) fun fr s' hq => ?_)
  match fr, hq with
  | .error er, hq => exact False.elim (pass0 (X := X.nox) pins σ H s er s' (I.wish _) hq)
  | .ok (.ret u), hq => exact I.after hq
  | .ok .next, hq => exact False.elim hq
  | .ok .brk, hq => exact False.elim hq
  | .ok .cont, hq => exact False.elim hq
end
section
variable {X : Cx} {ρ : Rho} {pos apos p : Pos} {a e : Expr} {es : List Expr} {k : Nat} {f : Addr} {fd : FuncData} {ps : List Str} {ι : Type} {A : ι → List Ty} {R : ι → Ty} {CC : Addr → Prop} {fts : List (Str × Ty)} {T : Ty}
/-- str(o) by __str__ -/
theorem te_strO {i : ι} {z : Str} (hm : X.mg "str" = none) (ha : PE X a (tT ρ (tyO CC fts))) (S : SpcF X.K CC "__str__" f) (F : FnOk X.prog X.w X.K X.mg X.base CX0 k f fd ps (spT A R)) (hr : Room (k + 2) X.A) (hbd : Binds X.K fd ps []) (hA : A i = [tyO CC fts]) (hR : R i = dS X z) (hg : Gl X "str" := by rfl) (hs : starEach [a] X.env = [(false, eval a X.env)] := by rfl) : PE X (.Call (.Name "str" p) [a] [] pos) (tT ρ (dS X z)) := by
  have cr : CallR X (.type "str") (fun xs H Q => ∃ x, xs = [x] ∧ (tyO CC fts).p H x ∧ ∀ v H', Gr H H' → (dS X z).p H' v → Q v H') := by
    intro pins s σ H xs us Q I r ⟨x, ex, hx, q⟩
    subst ex
    obtain ⟨u, rfl, rx⟩ := vals1 r
    obtain ⟨o1, C, dx, fs, ft, e1, hC, h3, h4, h5⟩ := id hx
    subst e1
    cases (show u = Value.ref o1 from rx)
    obtain ⟨mA, O, _, _, _, _⟩ := ins_get I.hok h3
    obtain ⟨od, J, _⟩ := O.look
    have hun := hr.un
    refine str_own (by show X.A.units + 1 + 1 < cLine; omega) I.kIn J (S.at_ C hC) S.fn (thn (run_T2 (i := i) F hr hbd I (vs := [.ref o1]) (.cons rfl .nil) (by rw [hA]; exact ⟨hx, True.intro⟩)) fun v s' ⟨y, H', I', rz, g, pz⟩ => ?_)
    rw [hR] at pz
    have ez := Dp.str_ (show Dp X.K H' y (.str z) from pz)
    subst ez
    obtain ⟨t, rfl⟩ := rz
    exact ⟨.str z, H', I', ⟨_, rfl⟩, q _ H' g (.str _)⟩
  exact te_t1 cr hm boot_str ha (fun v H Q hv q => ⟨v, rfl, hv, q⟩) hg hs
/-- C.m(e, ..), m a classmethod of the class at C -/
theorem te_cmeth {i : ι} {C pp : Addr} {mc : Value} {m x : Str} {Ts : List Ty} {pl : Sem Bool} (hm : X.mg x = some (.ref C)) (r : ClX.CRead X.K C mc) (c : ClX.CMet X.K C mc m pp f) (F : FnOk X.prog X.w X.K X.mg X.base CX0 k f fd ps (spT A R)) (hbd : Binds X.K fd ps []) (hr : Room k X.A) (ha : PA X (e :: es) (tTA ρ Ts)) (hA : A i = tyV (.ref C) :: Ts) (hg : Gl X x := by rfl)
    (hst : starEach (e :: es) X.env = (false, eval e X.env) :: starEach es X.env := by rfl) (hpl : (backTo pos (starEach es X.env)).any (·.1) = false := by rfl) (hdb : (x == ("__debug__" : Str)) = false := by decide)
    (ht : eval (.Call (.Attribute (.Name x p) m apos) (e :: es) [] pos) X.env = (do
      let ov ← eval (.Name x p) X.env
      standAt apos.atName
      let (f, first) ← holding [ov] (getMethod ov m pl)
      callWith pos f first (backTo pos (starEach (e :: es) X.env)) (backToKw pos (keywordEach [] X.env))) := by rfl) : PE X (.Call (.Attribute (.Name x p) m apos) (e :: es) [] pos) (tT ρ (R i)) :=
  pe_weak (ClX.pe_cmeth (E := E0) (pl := pl) (pe_glob hg hm (v := .ref C) rfl hdb) r c (F.raw hbd .nil) hr pass0 ha hst hpl ht) fun σ H Q q => ⟨rfl, q.1, fun vs H1 e1 hv => ⟨i, by rw [hA, List.append_nil]; exact ⟨rfl, hv⟩, fun v H' g z => q.2 v H' (e1.trans g) z⟩⟩
end
end K14
/-! LV: Table's ==, +, -, |. -/
namespace K14
open PySem PySem.Spec PyProof.Rows L2
/-! ### ascending letters -/
theorem sgn_inj {c d : Nat} (h : sgn c = sgn d) : c = d := by
  have e : (#[c] : Array Nat) = #[d] := congrArg Str.cps h
  simpa using e
theorem sgn_lt {c d : Nat} : ltCps (sgn c).cps.toList (sgn d).cps.toList = decide (c < d) := by
  rw [ltCps_eq]
  show decide (([c] : List Nat) < [d]) = decide (c < d)
  by_cases h : c < d
  · rw [decide_eq_true h]
    exact decide_eq_true (List.Lex.rel h)
  · rw [decide_eq_false h]
    refine decide_eq_false fun z => h ?_
    cases z with
    | rel q => exact q
    | cons q => cases q
theorem rising_signs : ∀ (r : List Str) (y : Str), risingS y r = true → (y :: r).Nodup → (∀ z ∈ y :: r, ∃ c, z = sgn c) → ∃ c cs, y = sgn c ∧ r = cs.map sgn ∧ (c :: cs).Pairwise (· < ·)
  | [], y, _, _, h => by
    obtain ⟨c, e⟩ := h y List.mem_cons_self
    exact ⟨c, [], e, rfl, List.pairwise_singleton _ _⟩
  | x :: r, y, hs, nd, h => by
    obtain ⟨c, e⟩ := h y List.mem_cons_self
    have h2 : (!ltCps x.cps.toList y.cps.toList && risingS x r) = true := hs
    obtain ⟨h3, h4⟩ := Bool.and_eq_true_iff.mp h2
    obtain ⟨n1, n2⟩ := List.nodup_cons.mp nd
    obtain ⟨d, ds, e1, e2, e3⟩ := rising_signs r x h4 n2 fun z hz => h z (List.mem_cons_of_mem _ hz)
    subst e e1 e2
    rw [sgn_lt] at h3
    have hne : c ≠ d := fun z => n1 (by rw [z]; exact List.mem_cons_self)
    have hlt : c < d := by
      have : ¬ d < c := by simpa using h3
      omega
    refine ⟨c, d :: ds, rfl, rfl, List.pairwise_cons.mpr ⟨fun q hq => ?_, e3⟩⟩
    rcases List.mem_cons.mp hq with z | z
    · exact z ▸ hlt
    · exact Nat.lt_trans hlt ((List.pairwise_cons.mp e3).1 q z)
theorem asc_signs {ys : List Str} (hs : sortedS ys = true) (nd : ys.Nodup) (h : ∀ z ∈ ys, ∃ c, z = sgn c) : ∃ cs : List Nat, ys = cs.map sgn ∧ cs.Pairwise (· < ·) := by
  cases ys with
  | nil => exact ⟨[], rfl, .nil⟩
  | cons y r =>
    obtain ⟨c, cs, e1, e2, e3⟩ := rising_signs r y hs nd h
    exact ⟨c :: cs, by rw [e1, e2]; rfl, e3⟩
theorem asc_eq : ∀ {cs ds : List Nat}, cs.Pairwise (· < ·) → ds.Pairwise (· < ·) → (∀ c, c ∈ cs ↔ c ∈ ds) → cs = ds
  | [], [], _, _, _ => rfl
  | [], d :: ds, _, _, h => by cases (h d).mpr List.mem_cons_self
  | c :: cs, [], _, _, h => by cases (h c).mp List.mem_cons_self
  | c :: cs, d :: ds, h1, h2, h => by
    obtain ⟨a1, a2⟩ := List.pairwise_cons.mp h1
    obtain ⟨b1, b2⟩ := List.pairwise_cons.mp h2
    have e : c = d := by
      have p1 := (h c).mp List.mem_cons_self
      have p2 := (h d).mpr List.mem_cons_self
      rcases List.mem_cons.mp p1 with z | z
      · exact z
      · rcases List.mem_cons.mp p2 with y | y
        · exact y.symm
        · have := b1 c z
          have := a1 d y
          omega
    subst e
    refine congrArg (c :: ·) (asc_eq a2 b2 fun x => ?_)
    constructor
    · intro hx
      rcases List.mem_cons.mp ((h x).mp (List.mem_cons_of_mem _ hx)) with z | z
      · have := a1 x hx
        omega
      · exact z
    · intro hx
      rcases List.mem_cons.mp ((h x).mpr (List.mem_cons_of_mem _ hx)) with z | z
      · have := b1 x hx
        omega
      · exact z
theorem shD_tb {T : Tb} (O : TbOk T) : ShD 3 (tbD T) := ShD.tup fun d hd => by
  have up : ∀ {n : Nat} {d : PyData}, ShD n d → n ≤ 2 → ShD 2 d := fun h hn => ⟨h.lay, Nat.le_trans h.dep hn⟩
  rcases List.mem_cons.mp hd with e | hd
  · exact e ▸ up (shD_strs O.ls.lows) (by decide)
  rcases List.mem_cons.mp hd with e | hd
  · exact e ▸ shD_rules fun p hp => (O.rs p hp).shD O.ls
  · exact List.mem_singleton.mp hd ▸ up (ShD.str (manners_ok _ O.m)) (by decide)
section
variable {P : Program} {w : World} {K : PySem.W.Frag} {mg : Str → Option Value} {base : Heap} {f tb fi : Addr} {fd fdi : FuncData} {CC C2 : Addr → Prop}
theorem fldForm {X : Cx} {ρ : Rho} {T : Tb} {e : Expr} {p : Pos} (R : TabC X.K CC) (he : PE X e (tT ρ (tyTab X.K CC T))) (hb : attributeBase e "own_form" X.env (eval e X.env) = eval e X.env := by rfl) : PE X (.Attribute e "own_form" p) (tT ρ (tyD X.K (tbD T))) := te_fld he (fun C' e => ⟨R.cls _ e, R.n1 _ e⟩) rfl hb
theorem fldRules {X : Cx} {ρ : Rho} {T : Tb} {e : Expr} {p : Pos} (R : TabC X.K CC) (he : PE X e (tT ρ (tyTab X.K CC T))) (hb : attributeBase e "own_rules" X.env (eval e X.env) = eval e X.env := by rfl) : PE X (.Attribute e "own_rules" p) (tT ρ (tyD X.K (rulesD T.rs))) := te_fld he (fun C' e => ⟨R.cls _ e, R.n2 _ e⟩) rfl hb
theorem sc52e : FnScope ["self", "other"] ["self", "other"] (defScope (memb 52 13)) := ⟨rfl, rfl, rfl, by decide +kernel, rfl, by decide +kernel, by decide +kernel⟩
theorem ok_tab_eq (F : MethAt K "__eq__" "Table.__eq__" 52 13 [] f fd) (R : TabC K CC) (R2 : TabC K C2) (B : Free mg) (ht : mg "Table" = some (.ref tb)) (I2 : InsT K C2 tb) : FnOk P w K mg base CX0 1 f fd ["self", "other"] (spT (fun i : { T : Tb // TbOk T } => [tyTab K CC i.1, tyTab K C2 i.1]) (fun _ => tyD K (.bool true))) ∧ Binds K fd ["self", "other"] [] := by
  refine ⟨fn_T F sc52e (fun _ => rfl) fun i cdv A outer s H E hr => ?_, methBinds F fun kV doc pm an cdv ct us hl => ?_⟩
  · obtain ⟨T, O⟩ := i
    refine ts_one (ts_ret (te_and (c := true) (d := true) (te_isO B.isinstance (te_var 1 (T := tyTab K C2 T)) ht I2) fun _ => te_one ?_))
    exact te_b (te_eqD (Nat.lt_of_succ_lt (units65 hr)) (fldForm R (te_var 0 (T := tyTab K CC T))) (fldForm R2 (te_var 1 (T := tyTab K C2 T))) (shD_tb O).shaped (shD_tb O).shaped) (SeqAt.eqv_refl _ (shD_tb O).lay)
  · match us, hl with
    | [a, b], _ => rfl
structure AdIx where
  T : Tb
  p : Rule
  O : TbOk T
  R : RuleOf T.ls p
  n : p ∉ T.rs
  O2 : TbOk ⟨T.ls, T.rs ++ [p], T.m⟩
theorem sc52a : FnScope ["self", "rule"] ["self", "rule"] (defScope (memb 52 14)) := ⟨rfl, rfl, rfl, by decide +kernel, rfl, by decide +kernel, by decide +kernel⟩
theorem ok_tab_add (F : MethAt K "__add__" "Table.__add__" 52 14 [] f fd) (R : TabC K CC) (c43 : CWith P w K mg base) (c51 : CTabObj P w K mg base tb) : FnOk P w K mg base CX0 12 f fd ["self", "rule"] (spT (fun i : AdIx => [tyTab K CC i.T, tyD K (pairD i.p)]) (fun i => tyTab K (fun C => C = tb) ⟨i.T.ls, i.T.rs ++ [i.p], i.T.m⟩)) ∧ Binds K fd ["self", "rule"] [] := by
  refine ⟨fn_T F sc52a (fun _ => rfl) fun i cdv A outer s H E hr => ?_, methBinds F fun kV doc pm an cdv ct us hl => ?_⟩
  · obtain ⟨T, p, O, RO, n, O2⟩ := i
    exact ts_one (ts_ret (te_fn (i := (Subtype.mk ⟨T.ls, T.rs ++ [p], T.m⟩ O2 : { T : Tb // TbOk T })) c51 hr (ta_one (te_fnD (i := WrIx.mk T p O RO n) (Ts := [tyD K (tbD T), tyD K (pairD p)]) (Ds := [tyD K .none]) c43 (hr.mono (by decide)) (ta_cons (fldForm R (te_var 0 (T := tyTab K CC T))) (ta_one (te_var 1) rfl)) (fun H => ⟨.non, True.intro⟩) rfl) rfl)))
  · match us, hl with
    | [a, b], _ => rfl
structure SuIx where
  T : Tb
  k : Nat
  O : TbOk T
  h : k < T.rs.length
  O2 : TbOk ⟨T.ls, T.rs.take k ++ T.rs.drop (k + 1), T.m⟩
theorem sc52u : FnScope ["self", "rule"] ["self", "rule"] (defScope (memb 52 15)) := ⟨rfl, rfl, rfl, by decide +kernel, rfl, by decide +kernel, by decide +kernel⟩
theorem ok_tab_sub (F : MethAt K "__sub__" "Table.__sub__" 52 15 [] f fd) (R : TabC K CC) (c16 : Cal P w K mg base 4 "is_rule" (fun i : { p : Rule // PairOk p } => [tyD K (pairD i.1)]) (fun _ => tyD K (.bool true))) (c33 : CUse P w K mg base) (c44 : CWithout P w K mg base) (c51 : CTabObj P w K mg base tb) :
    FnOk P w K mg base CX0 12 f fd ["self", "rule"] (spT (fun i : SuIx => [tyTab K CC i.T, tyD K (pairD (i.T.rs.getD i.k ("", "")))]) (fun i => tyTab K (fun C => C = tb) ⟨i.T.ls, i.T.rs.take i.k ++ i.T.rs.drop (i.k + 1), i.T.m⟩)) ∧ Binds K fd ["self", "rule"] [] := by
  refine ⟨fn_T F sc52u (fun _ => rfl) fun i cdv A outer s H E hr => ?_, methBinds F fun kV doc pm an cdv ct us hl => ?_⟩
  · obtain ⟨T, k, O, hk, O2⟩ := i
    have hg : T.rs[k]? = some (T.rs.getD k ("", "")) := by
      rw [List.getD_eq_getElem?_getD, List.getElem?_eq_getElem hk]
      rfl
    have hm := List.mem_of_getElem? hg
    have RO := O.rs _ hm
    generalize hp : T.rs.getD k ("", "") = p at hg hm RO
    have lo : ∀ q ∈ T.rs, Low q.1 ∧ Low q.2 := fun q hq => (O.rs q hq).shD O.ls
    refine ts_cons (ts_expr (te_fn (i := ("rule" : Str)) c33 (hr.mono (by decide)) (ta_cons (te_and (c := true) (d := true) (te_fn (i := (Subtype.mk p (RO.pair O.ls) : { p : Rule // PairOk p })) c16 (hr.mono (by decide)) (ta_one (te_var 1) rfl)) fun _ => te_one
      (te_b (te_inT (units65 hr) (te_var 1) (te_le (fldRules R (te_var 0 (T := tyTab K CC T))) tyD_n) (shD_pair (lo p hm).1 (lo p hm).2).shaped (shD_rs O)) (by rw [inD_pairs, decide_eq_true hm]))) (ta_one te_str rfl))) ?_)
    exact ts_one (ts_ret (te_fn (i := (Subtype.mk ⟨T.ls, T.rs.take k ++ T.rs.drop (k + 1), T.m⟩ O2 : { T : Tb // TbOk T })) c51 hr (ta_one (te_fn (i := WoIx.mk T k O hk) c44 (hr.mono (by decide)) (ta_cons (fldForm R (te_var 0 (T := tyTab K CC T))) (ta_one (te_indexR (units65 hr) (fldRules R (te_var 0 (T := tyTab K CC T))) (te_var 1) O.nd hg lo) rfl))) rfl)))
  · match us, hl with
    | [a, b], _ => rfl
def moreR (rs rs2 : List Rule) : List Rule := rs2.filter fun p => !decide (p ∈ rs)
structure UnIx where
  T : Tb
  rs2 : List Rule
  m2 : Str
  O : TbOk T
  Ou : TbOk ⟨T.ls, rs2, m2⟩
  O2 : TbOk ⟨T.ls, T.rs ++ moreR T.rs rs2, T.m⟩
  ll : T.ls.length ≤ 20
theorem sc52r : FnScope ["self", "other", "letters", "more", "rule"] ["self", "other"] (defScope (memb 52 16)) := ⟨rfl, rfl, rfl, by decide +kernel, rfl, by decide +kernel, by decide +kernel⟩
theorem ok_tab_or {fj : Addr} {fdj : FuncData} (F : MethAt K "__or__" "Table.__or__" 52 16 [] f fd) (R : TabC K CC) (R2 : TabC K C2) (B : Free mg) (ht : mg "Table" = some (.ref tb)) (I2 : InsT K C2 tb) (c33 : CUse P w K mg base) (M : Mk K tb fj) (Fj : FTabInit P w K mg base CC fj fdj) (bj : BTabInit K fdj) (hC : CC tb) :
    FnOk P w K mg base CX0 11 f fd ["self", "other"] (spT (fun i : UnIx => [tyTab K CC i.T, tyTab K C2 ⟨i.T.ls, i.rs2, i.m2⟩]) (fun i => tyTab K (fun C => C = tb) ⟨i.T.ls, i.T.rs ++ moreR i.T.rs i.rs2, i.T.m⟩)) ∧ Binds K fd ["self", "other"] [] := by
  refine ⟨fn_T F sc52r (fun _ => rfl) fun i cdv A outer s H E hr => ?_, methBinds F fun kV doc pm an cdv ct us hl => ?_⟩
  · obtain ⟨T, rs2, m2, O, Ou, O2, ll⟩ := i
    let T2 : Tb := ⟨T.ls, rs2, m2⟩
    have hl2 : (rs2.map pairD).length = rs2.length := List.length_map ..
    refine ts_cons (ts_expr (te_fn (i := ("table" : Str)) c33 (hr.mono (by decide)) (ta_cons (te_isO B.isinstance (te_var 1 (T := tyTab K C2 T2)) ht I2) (ta_one te_str rfl))) ?_)
    have hset : ∀ H v, (tyD K (.tuple ((T.ls.map sgn).map PyData.str ++ (T.ls.map sgn).map PyData.str))).p H v → ∃ a, v = .ref a ∧ (SqL K H a ((T.ls.map sgn ++ T.ls.map sgn).map V.str) ∨ SqT K H a ((T.ls.map sgn ++ T.ls.map sgn).map V.str)) := fun H v hv => by
      rw [← List.map_append] at hv
      obtain ⟨a, xs, e1, h1, h2⟩ := Dp.tup_ (show Dp K H v _ from hv)
      rw [dpAll_strs h2] at h1
      exact ⟨a, e1, .inr h1.sq⟩
    have hasc : (tyAsc K (T.ls.map sgn ++ T.ls.map sgn)).le (tyD K (.list ((T.ls.map sgn).map .str))) := fun H v ⟨ys, ⟨h1, h2, h3⟩, hv⟩ => by
      obtain ⟨cs, e1, e2⟩ := asc_signs h1 h3 fun z hz => by
        have := (h2 z).mp hz
        rw [List.mem_append, or_self] at this
        obtain ⟨c, _, e⟩ := List.mem_map.mp this
        exact ⟨c, e.symm⟩
      have e3 : cs = T.ls := asc_eq e2 O.ls.asc fun c => by
        have := h2 (sgn c)
        rw [e1, List.mem_append, or_self] at this
        constructor
        · intro hc
          obtain ⟨d, hd, e⟩ := List.mem_map.mp (this.mp (List.mem_map.mpr ⟨c, hc, rfl⟩))
          exact sgn_inj e ▸ hd
        · intro hc
          obtain ⟨d, hd, e⟩ := List.mem_map.mp (this.mpr (List.mem_map.mpr ⟨c, hc, rfl⟩))
          exact sgn_inj e ▸ hd
      subst e3
      rw [e1] at hv
      exact tyTL_le H v hv
    have hll : (T.ls.map sgn ++ T.ls.map sgn).length ≤ 40 := by
      rw [List.length_append, List.length_map]
      omega
    refine ts_cons (ts_set 2 (T := tyD K (letD T.ls)) (te_tupleL (ds := (T.ls.map sgn).map .str) B.tuple (te_le (te_sortedX rfl B.sorted (te_setOf rfl B.set (te_addT (ds := (T.ls.map sgn).map .str) (es := (T.ls.map sgn).map .str) (te_ixT (d := letD T.ls) (ds := [letD T.ls, rulesD T.rs, .str T.m]) (fldForm (T := T) R (te_var 0)) te_int rfl) (te_ixT (d := letD T.ls) (ds := [letD T.ls, rulesD rs2, .str m2]) (fldForm (T := ⟨T.ls, rs2, m2⟩) R2 (te_var 1)) te_int rfl) ?_) hset ?_) ?_) hasc)) ?_ sc52r.nd)
    · simp only [List.length_map]
      omega
    · omega
    · omega
    refine ts_cons (ts_setLc (j := 3) [("rule", 4)] (n := rs2.length) (item := fun j => tyD K (pairD (rs2.getD j ("", "")))) (p := fun j => !decide (rs2.getD j ("", "") ∈ T.rs)) (el := fun j => tyD K (pairD (rs2.getD j ("", "")))) (nxt := fun j => _) rfl sc52r.nd ?_ (Nat.le_trans Ou.len (by decide)) (blkOk_by (N := ["self", "other", "letters", "more", "rule"]) (sc := defScope (memb 52 16)) (by decide +kernel))
      (lcokIf (fun j hj s' H' C cl fp => tg_name 4 sc52r.nd (by decide)) (fun j hj s' H' C cl fp => ?_) (fun j hj hb s' H' C cl fp => te_var 4)) ?_ (sw_true rfl rfl rfl (by decide +kernel)))
    · refine pi_congr (ti_tup (fldRules R2 (te_var 1 (T := tyTab K C2 T2)))) hl2 fun j hj => ?_
      have hj' : j < rs2.length := by rw [← hl2]; exact hj
      show tyD K ((rs2.map pairD).getD j .none) = _
      rw [getD_map pairD .none rs2 j hj', List.getD_eq_getElem?_getD, List.getElem?_eq_getElem hj']
      rfl
    · have hmem : rs2.getD j ("", "") ∈ rs2 := by
        rw [List.getD_eq_getElem?_getD, List.getElem?_eq_getElem hj]
        exact List.getElem_mem hj
      have lo := (Ou.rs _ hmem).shD Ou.ls
      exact tt_is (tt_notInT (units65 hr) (te_var 4) (te_le (fldRules R (te_var 0 (T := tyTab K CC T))) tyD_n) (shD_pair lo.1 lo.2).shaped (shD_rs O)) (by rw [inD_pairs])
    · have em : (tyL (took rs2.length (fun j => !decide (rs2.getD j ("", "") ∈ T.rs)) fun j => tyD K (pairD (rs2.getD j ("", ""))))).le (tyTL K ((moreR T.rs rs2).map pairD)) := tyL_le (by
        rw [took_filter (fun p => !decide (p ∈ T.rs)) (fun p => tyD K (pairD p)) ("", "") rs2 _ _ (fun _ _ => rfl) (fun _ _ => rfl), List.map_map]
        rfl)
      refine ts_one (ts_ret (te_makeK (i := (Subtype.mk ⟨T.ls, T.rs ++ moreR T.rs rs2, T.m⟩ O2 : { T : Tb // TbOk T })) (Ts := [tyD K (letD T.ls), tyD K (rulesD (T.rs ++ moreR T.rs rs2))]) (Ds := [tyD K (.str T.m)]) M Fj hC hr ht bj (ta_cons (te_var 2) (ta_one (te_tupE (ds := (T.rs ++ moreR T.rs rs2).map pairD) (ta_starT (fldRules R (te_var 0 (T := tyTab K CC T))) (ta_starL (te_le (te_var 3) em) ta_nil)) ?_ ?_) rfl)) rfl (tk_cons (te_ixT (ds := [letD T.ls, rulesD T.rs, .str T.m]) (fldForm R (te_var 0 (T := tyTab K CC T))) te_int rfl) tk_nil) rfl rfl))
      · rw [List.append_nil, List.map_append, List.map_append]
      · have := O2.len
        rw [List.length_map]
        exact Nat.le_trans this (by decide)
  · match us, hl with
    | [a, b], _ => rfl
end
end K14
/-! LW: super().__init__(..) of an own exception over ValueError; NotUsable's __init__. -/
namespace K14
open PySem PySem.Spec PyProof.Rows L2 NdefX
/-- the class at C: its __init__ one above is ValueError's -/
structure SupE (K : PySem.W.Frag) (C : Addr) : Prop where
  cls : ∃ cd, PySem.W.clsIn K C = some cd
  sub : PySem.W.mroIn K C (.ref C) = some true
  opq : PySem.W.nsIn K PySem.cStatics "thirdparty.any" = some none
  mth : PySem.W.ks_superIn K C C "__init__" = some (some (.builtin "ValueError.__init__"))
  ve : PySem.W.subIn K (.ref C) (.type "ValueError") = some true
section
variable {X : Cx} {pins : List (Addr × Obj)} {s : Shared} {σ : L2.St} {H : Hp} {x C : Addr} {body : List Stmt} {p0 p1 : Pos} {i j : Nat} {slf : Str} {f cda : Addr}
/-- the method-wrapper, at any heap -/
theorem super_exc {m : Str} {Q : Value × List Value → Shared → Prop} {pl : Sem Bool} {whole : Sem Value} (I : Inv X pins σ H s) (S : DefS X f cda slf) (F : SupE X.K C) (hm : m = "__init__") (hx : H x = some (exo x C none)) (hs1 : σ[i]? = some (some (.ref x))) (hs2 : σ[j]? = some (some (.ref C))) (hi : X.N[i]? = some slf) (hj : X.N[j]? = some "__class__")
    (hks : X.env.kindOf "super" = some .globalImplicit) (hkc : X.env.kindOf "__class__" = some .free) (hkx : X.env.kindOf slf = some .local) (h : ∀ u s', Inv X ((u, PySem.W.kxs_mw "ValueError.__init__" x) :: pins) σ H s' → Q (.ref u, []) s') :
    _root_.PySem.wpAt (model X.prog X.w) X.A (.func body X.env) (attributeBase (.Call (.Name "super" p0) [] [] p1) m X.env whole) (fun ov s₁ => wpAny (model X.prog X.w) X.A (getMethod ov m pl) Q X.xe s₁) X.xe s := by
  subst hm
  obtain ⟨oc, od, fd, osl, ar, h1, h2, h3⟩ := S.fd
  obtain ⟨ccl, cdd, vs, ccs, file, tf, h4, h5, h6⟩ := S.file
  obtain ⟨cd, hD⟩ := F.cls
  obtain ⟨oD, hD1, hD2⟩ : ∃ oD, s.heap.get? C = some oD ∧ oD.data = .cls cd := by
    have hD' := hD
    unfold PySem.W.clsIn at hD'
    split at hD'
    · rename_i c d cd' sl ho
      cases hD'
      exact ⟨_, I.kIn _ _ ho, rfl⟩
    · cases hD'
  obtain ⟨t1, ho⟩ := exo_at I.hok hx
  have J : PySem.W.InstAt s.heap x { cls := .ref C, dict := none, data := .fields #[.ref t1, .none, .none, .none, .bool false, .none] } C none := ⟨ho, rfl, rfl, trivial⟩
  refine ks_wpAt_super_base (env := X.env) hks hkc (by decide) S.fn (I.kIn _ _ h1) rfl h2 S.cd (I.kIn _ _ h4) rfl h5 h6 S.top ?_
  obtain ⟨mb, b1, b2⟩ := I.mod.blt
  refine PySem.W.ks_loadName_global I.ok.kind hks (Calls.loadGlobal_builtin (by rw [I.ok.glob]; exact I.mod.glob.keeps I.bk) S.free (by rw [I.ok.blt]; exact b1.keeps I.bk) ((b2 "super" (by decide)).trans (by first | rfl | kernel_rfl)) ⟨rfl, ?_⟩)
  obtain ⟨ml, hn, hl⟩ := I.loc
  obtain ⟨u2, r2, l2⟩ := hl j "__class__" _ hj hs2 (.inr (.inr hkc))
  rcases l2 with ⟨hk, _⟩ | ⟨_, c, hc, hcell⟩
  · rw [hkc] at hk
    cases hk
  cases (show u2 = Value.ref C from r2)
  refine wpAny_loadName_free I.ok.kind hkc hc hcell ?_
  rw [h3]
  obtain ⟨u1, r1, l1⟩ := hl i slf _ hi hs1 (.inl hkx)
  rcases l1 with ⟨_, hm1⟩ | ⟨hk, _⟩
  · cases (show u1 = Value.ref x from r1)
    refine wpAny_loadName_local I.ok.kind hkx hn hm1 (ks_wpAny_isType_cls hD1 hD2 ⟨rfl, ?_⟩)
    obtain ⟨hh, gg, d, tk, os⟩ := s
    refine ks_wpAny_call_super hD1 hD2 J.at_ J.cls (fun c e => by cases e) (PySem.W.looks_mroIn I.kIn F.sub) (fun h' e k => ?_)
    have I1 : Inv X pins σ H ⟨h', gg, d, tk, os⟩ := I.kept (t' := tk) k
    have hmm := F.mth
    unfold PySem.W.ks_superIn at hmm
    rw [hD] at hmm
    refine PySem.W.kxs_getMethod PySem.W.kxs_ValueError e (PySem.W.looks_opaque I1.kIn F.opq) (l₀ := cd.mro) (fun A Q E s k q => wpAny_bind ((PySem.W.looks_clsIn I1.kIn hD) A _ E s k (wpAny_pure q))) rfl I1.kIn hmm ((show PySem.W.InstAt h' x { cls := .ref C, dict := none, data := .fields #[.ref t1, .none, .none, .none, .bool false, .none] } C none from ⟨k _ _ ho, rfl, rfl, trivial⟩).type.andThen (PySem.W.looks_subIn I1.kIn F.ve)) (PySem.W.ks_ne I.kIn J hD) (by decide) (h _ _ ?_)
    exact ClX.pin_new (s := ⟨h', gg, d, tk, os⟩) I1 (fun b o z => Heap.get?_push_of_some _ z) (Nat.le_refl _) (Heap.get?_push_size h' rfl) (fun v z => nomatch z)
  · have hk : X.env.kindOf slf = some .cell ∨ X.env.kindOf slf = some .free := hk
    rw [hkx] at hk
    rcases hk with hk | hk <;> cases hk
/-- ValueError.__init__ of the object, called -/
theorem mw_ok {us : List Value} {u : Addr} {Q : Value → Shared → Prop} {E : Value → Shared → Prop} (T : OexC X.K C) (I : Inv X ((u, PySem.W.kxs_mw "ValueError.__init__" x) :: pins) σ H s) (e : H x = some (exo x C none)) (hl : us.length ≤ sizeLine) (h : ∀ s', Inv X pins σ H s' → Q .none s') : wpAny (model X.prog X.w) X.A (call (.ref u) us) Q E s := by
  obtain ⟨nm, q, N, bs, bm, sn, sub, ab, col, dd, k0, k1, k2, k3, k5, hC, hbm⟩ := T.cls
  obtain ⟨t1, ho⟩ := exo_at I.hok e
  have hu := ClX.pin_at I
  have I0 := ClX.unpin I
  have FB := F.excBase_ValueError
  obtain ⟨hp, g, d, t, os⟩ := s
  refine wpAny_call (codeAny_of_tree ?_)
  show wpAny _ X.A.in1 (callAny (.ref u) ⟨us, []⟩) _ _ _
  simp only [callAny]
  refine wpAny_bind (wpAny_load hu ?_)
  simp only [PySem.W.kxs_mw, show (Value.type "method-wrapper" == Value.type "method" || Value.type "method-wrapper" == Value.type "builtin_function_or_method" || Value.type "method-wrapper" == Value.type "method-wrapper") = true by decide, if_true]
  refine PySem.W.KFB.if_so (by decide) (wpAny_bind (PySem.W.check_bound_init FB.toExcCallFacts (I.kIn _ _ hC) ho rfl (wpAny_bind (wpAny_pure (wpAny_pure ⟨plainId_quiet FB.init.plain _, codeAny_builtin FB.initEntry ?_⟩)))))
  refine PySem.W.exc_init_tree (cls := .ref C) (t0 := t1) (dv := none) (c2 := .none) (c3 := .none) (b4 := .bool false) ho hl fun h' k hx ht => ?_
  have Jw := I0.write (t' := t) (x := x) (e := x) (o := exo x C none) (by rw [e]; exact True.intro) (.inl rfl) k ⟨_, hx⟩ (exo_ok hx)
  have eu : upd H x (exo x C none) = H := by
    funext b
    by_cases hb : b = x
    · rw [hb, upd_same, e]
    · rw [upd_ne hb]
  rw [eu] at Jw
  exact h _ Jw
end
section
variable {X : Cx} {body : List Stmt} {e : Expr} {es : List Expr} {p0 p1 apos pos epos : Pos} {slf : Str} {f cda C : Addr}
/-- super().__init__(e, ..) -/
theorem p1at_superE {ta : TA} {pl : Sem Bool} (i j : Nat) (S : DefS X f cda slf) (F : SupE X.K C) (T : OexC X.K C) (ha : PA X (e :: es) ta) (hi : X.N[i]? = some slf) (hj : X.N[j]? = some "__class__") (hks0 : X.env.kindOf "super" = some .globalImplicit) (hkc : X.env.kindOf "__class__" = some .free) (hkx : X.env.kindOf slf = some .local)
    (he : starEach (e :: es) X.env = (false, eval e X.env) :: starEach es X.env) (hpl : ((backTo pos (starEach (e :: es) X.env)).any (·.1)) = false) (hit : interactive X.env = false) (hsw : swapsWith (.Call (.Attribute (.Call (.Name "super" p0) [] [] p1) "__init__" apos) (e :: es) [] pos) none epos.line X.env = pure false)
    (ht : eval (.Call (.Attribute (.Call (.Name "super" p0) [] [] p1) "__init__" apos) (e :: es) [] pos) X.env = (do
      let ov ← attributeBase (.Call (.Name "super" p0) [] [] p1) "__init__" X.env (eval (.Call (.Name "super" p0) [] [] p1) X.env)
      standAt apos.atName
      let (f, first) ← holding [ov] (getMethod ov "__init__" pl)
      callWith pos f first (backTo pos (starEach (e :: es) X.env)) (backToKw pos (keywordEach [] X.env)))) :
    P1At X body (.Expr (.Call (.Attribute (.Call (.Name "super" p0) [] [] p1) "__init__" apos) (e :: es) [] pos) epos) (fun D σ H => ∃ x, H x = some (exo x C none) ∧ σ[i]? = some (some (.ref x)) ∧ σ[j]? = some (some (.ref C)) ∧ ta σ H fun vs H1 => vs.length ≤ 1000 ∧ H1 x = some (exo x C none) ∧ D.nx σ H1) := ⟨fun pins s σ H D I ⟨x, hx, hs1, hs2, q⟩ => by
  refine ks_wpAt_Expr_any (wpAt_MethodCallK (pl := pl) (super_exc (m := "__init__") I S F rfl hx hs1 hs2 hi hj hks0 hkc hkx fun u s1 I1 => ?_) ht) hit hsw
  show wpAny _ _ (callWith pos (.ref u) [] (backTo pos (starEach (e :: es) X.env)) []) _ _ _
  have hA := ha.run pos ((u, PySem.W.kxs_mw "ValueError.__init__" x) :: pins) s1 σ H _ I1 q
  rw [he] at hA hpl ⊢
  refine PySem.W.kxs_callWith (i := "ValueError.__init__") (x := x) (u := u) hpl (Calls.evalArgs_plain (thn hA fun us s2 ⟨vs, H1, I2, r, hl, hx1, q1⟩ => ⟨ClX.pin_at I2, ?_⟩))
  exact mw_ok T I2 hx1 (by show us.length ≤ sizeLine; rw [← r.length, sizeLine_eq]; omega) fun s3 I3 => ⟨σ, H1, I3, q1⟩⟩
end
/-! ### NotUsable.__init__ -/
def nuF (x y : V) : List (Str × V) := [("at", y), ("word", x)]
def spNU (C : Addr) : Sp := fun vs H Q _ => ∃ a x y, vs = [.ref a, x, y] ∧ H a = some (exo a C none) ∧ ∀ d, H d = none → d ≠ a → Q .non (upd (upd (upd H d (exd d [("word", x)])) a (exo a C (some d))) d (exd d (nuF x y)))
/-- what the text says of the class NotUsable -/
structure NuC (K : PySem.W.Frag) (C : Addr) : Prop where
  oex : OexC K C
  sup : SupE K C
  n1 : PySem.W.findIn K (.ref C) "word" = some none
  n2 : PySem.W.findIn K (.ref C) "at" = some none
section
variable {P : Program} {w : World} {K : PySem.W.Frag} {mg : Str → Option Value} {base : Heap} {f cc C cda : Addr} {fd : FuncData}
abbrev nuN : List Str := ["self", "word", "at", "__class__"]
theorem sc6 : NScope nuN ["self", "word", "at"] ["__class__"] (defScope (memb 6 0)) := nscope_by (by decide +kernel)
theorem FunS.kb0 (F : FunS K "__init__" "NotUsable.__init__" (defArgs (memb 6 0)) (defBody (memb 6 0)) (defScope (memb 6 0)) [] [] f fd cc C cda) : Binds K fd ["self", "word", "at"] [] := by
  obtain ⟨oc, od, dV, kV, doc, pm, an, ct, osl, rfl, lk, hcd, hD, hK⟩ := F.ex
  intro s us X l
  rw [List.append_nil] at l ⊢
  rcases hD with ⟨_, rfl⟩ | ⟨e, _⟩
  · match us, l with
    | [a, b, c], _ => exact .of_eq rfl
  · exact absurd rfl e
theorem ok_nu_init (F : FunS K "__init__" "NotUsable.__init__" (defArgs (memb 6 0)) (defBody (memb 6 0)) (defScope (memb 6 0)) [] [] f fd cc C cda) (Fi : FileF P K cda) (hsup : mg "super" = none) (N : NuC K C) : FnOk P w K mg base CX0 1 f fd ["self", "word", "at"] (spNU C) ∧ Binds K fd ["self", "word", "at"] [] := by
  refine ⟨fnS_of F sc6 (fun vs H Q E ⟨a, x, y, e, _⟩ => by rw [e]; rfl) fun A outer s H vs Q E hr ⟨a, x, y, e, ha, q⟩ => ?_, F.kb0⟩
  subst e
  refine ⟨_, PAt.nox (pat_cons (p1at_superE 0 3 (defS_of F Fi hsup rfl rfl rfl rfl rfl rfl) N.sup N.oex (pa_cons (pe_var (i := 1) rfl (.inl rfl)) (pa_cons (pe_var (i := 2) rfl (.inl rfl)) pa_nil)) rfl rfl rfl rfl rfl rfl rfl rfl rfl rfl)
    (pat_of (pss_cons (ps_ost (pe_var (i := 0) rfl (.inl rfl)) (pe_var (i := 1) rfl (.inl rfl))) (pss_one (ps_ost (pe_var (i := 0) rfl (.inl rfl)) (pe_var (i := 2) rfl (.inl rfl))))))), ?_⟩
  refine ⟨a, ha, rfl, rfl, x, rfl, y, rfl, (show 2 ≤ 1000 by decide), ha, x, rfl, .ref a, rfl, a, C, rfl, N.oex, N.n1, .inl ⟨ha, fun d hd hda => ?_⟩⟩
  refine ⟨y, rfl, .ref a, rfl, a, C, rfl, N.oex, N.n2, .inr ⟨d, [("word", x)], upd_same, ?_, (show 1 ≤ 900 by decide), q d hd hda⟩⟩
  rw [upd_ne hda, upd_same]
end
end K14
/-! LX: what raises NotUsable("rule", -1): require_usable, with_rule, Table's +. -/
namespace K14
open PySem PySem.Spec PyProof.Rows L2
/-- the exception is wished for: at C, its fields fs -/
def zW (E : XK) (C : Addr) (fs : List (Str × V)) (H : Hp) : Prop := ∀ d H', Gr H H' → H' d = some (.xd fs) → E (.ref C) (some d) H'
theorem zW.mono {E : XK} {C : Addr} {fs : List (Str × V)} {H H1 : Hp} (h : zW E C fs H) (e : Gr H H1) : zW E C fs H1 := fun d H' g q => h d H' (e.trans g) q
def tZE (ρ : Rho) (E : XK) (C : Addr) (fs : List (Str × V)) : TE := fun σ H _ => EnvT H σ ρ ∧ zW E C fs H
def tZ (ρ : Rho) (E : XK) (C : Addr) (fs : List (Str × V)) : TS := fun _ σ H => EnvT H σ ρ ∧ zW E C fs H
/-- a promise to raise it -/
def spX {ι : Type} (A : ι → List Ty) (C : Addr) (fs : List (Str × V)) : Sp := fun vs H _ E => ∃ i, AllT H vs (A i) ∧ zW E C fs H
structure CalX (P : Program) (w : World) (K : PySem.W.Frag) (mg : Str → Option Value) (base : Heap) (k : Nat) (x : Str) {ι : Type} (A : ι → List Ty) (dvs : List V) (C : Addr) (fs : List (Str × V)) : Prop where
  ex : ∃ (f : Addr) (fd : FuncData) (ps : List Str) (ds : List Value), FnOk P w K mg base (L2.CX P w) k f fd ps (spX A C fs) ∧ mg x = some (.ref f) ∧ PySem.W.keepIn K (.ref f) = true ∧ Vals dvs ds ∧ Binds K fd ps ds
section
variable {X : Cx} {e : Expr} {es : List Expr} {pos p : Pos} {ρ : Rho} {x : Str} {k : Nat} {ι : Type} {A : ι → List Ty} {R : ι → Ty} {P : Program} {w : World} {K : PySem.W.Frag} {mg : Str → Option Value} {base : Heap} {dvs : List V} {Ts Ds : List Ty} {E : XK} {C : Addr} {fs : List (Str × V)} {st : Stmt} {rest body orelse : List Stmt}
/-- f(e, ..) raises -/
theorem tz_fn {i : ι} (Cx : CalX P w K mg base k x A dvs C fs) (hr : Room k X.A) (hx : Passes (L2.CX X.prog X.w) X E) (ha : PA X (e :: es) (tTA ρ Ts)) (hdv : ∀ H, AllT H dvs Ds) (hi : A i = Ts ++ Ds) (hX : Of X P w K mg base := by exact ⟨rfl, rfl, rfl, rfl, rfl⟩) (hg : Gl X x := by rfl) (he : starEach (e :: es) X.env = (false, eval e X.env) :: starEach es X.env := by rfl)
    (hpl : (backTo pos (starEach es X.env)).any (·.1) = false := by rfl) (hdb : (x == ("__debug__" : Str)) = false := by decide) : PE X (.Call (.Name x p) (e :: es) [] pos) (tZE ρ E C fs) := by
  obtain ⟨h1, h2, h3, h4, h5⟩ := hX
  subst h1 h2 h3 h4 h5
  obtain ⟨f, fd, ps, ds, h1, h2, h3, h4, h5⟩ := Cx.ex
  exact pe_weak (pe_call h1 hr hg h2 h3 h5 h4 hx ha hdb he hpl) fun σ H Q q => ⟨q.1, fun vs H1 e1 hv => ⟨i, by rw [hi]; exact hv.app (hdv H1), q.2.mono e1⟩⟩
/-- g(e), e raises -/
theorem tz_arg {x2 : Str} {k2 : Nat} (G : Cal P w K mg base k2 x2 A R) (hr : Room k2 X.A) (h : PE X e (tZE ρ E C fs)) (hX : Of X P w K mg base := by exact ⟨rfl, rfl, rfl, rfl, rfl⟩) (hg : Gl X x2 := by rfl) (he : starEach [e] X.env = (false, eval e X.env) :: starEach [] X.env := by rfl) (hdb : (x2 == ("__debug__" : Str)) = false := by decide) : PE X (.Call (.Name x2 p) [e] [] pos) (tZE ρ E C fs) := by
  obtain ⟨h1, h2, h3, h4, h5⟩ := hX
  subst h1 h2 h3 h4 h5
  obtain ⟨f, fd, ps, h1, h2, h3, h4⟩ := G.ex
  exact pe_weak (pe_call (E := E0) h1 hr hg h2 h3 h4 .nil pass0 (pa_cons h pa_nil he) hdb he (by rfl)) fun σ H Q q => q
theorem tz_pre (h : PS X st (tS ρ { nx := fun ρ' => PSs X rest (tZ ρ' E C fs), rt := ⟨fun _ _ => False, fun _ h => h⟩ })) : PSs X (st :: rest) (tZ ρ E C fs) :=
  pss_weak (pss_cons h (pss_some (P := fun ρ' => PSs X rest (tZ ρ' E C fs)) (t := fun ρ' => tZ ρ' E C fs) fun _ p => p)) fun D0 σ H q =>
    ⟨q.1, ⟨fun r s h a b c => ⟨r, a, b, q.2.mono c⟩, fun v h c a => a.elim, fun _ _ _ a => a.elim, fun _ _ _ a => a.elim⟩⟩
theorem tz_end (h : PS X st (tZ ρ E C fs)) : PSs X (st :: rest) (tZ ρ E C fs) := pss_weak (pss_cons h pss_never) fun D0 σ H q => q
theorem tz_expr (h : PE X e (tZE ρ E C fs)) (hs : swapsWith e none pos.line X.env = pure false := by rfl) : PS X (.Expr e pos) (tZ ρ E C fs) := ps_weak (ps_expr h hs) fun D0 σ H q => q
theorem tz_ret (h : PE X e (tZE ρ E C fs)) : PS X (.Return (some e) pos) (tZ ρ E C fs) := ps_weak (ps_ret h) fun D0 σ H q => q
theorem tz_if {c : Expr} (hc : PT X c (tTB ρ true)) (h : PSs X body (tZ ρ E C fs)) : PS X (.If c body orelse pos) (tZ ρ E C fs) :=
  ps_weak (ps_if hc h pss_never) fun D0 σ H q => ⟨q.1, fun H1 e1 => iteT ⟨q.1.mono e1, q.2.mono e1⟩⟩
/-- raise NotUsable(word, at) -/
theorem tz_raise {fI : Addr} {fdI : FuncData} {x1 y1 : V} {e2 : Expr} {cpos : Pos} (hc : X.calm = true) (tk : Takes X (fun cls d _ H => E cls d H)) (N : NuC X.K C) (iC : PySem.W.findIn X.K (.ref C) "__init__" = some (some (.ref fI))) (tI : PySem.W.typeIn X.K (.ref fI) = some (.type "function")) (F1 : FnOk X.prog X.w X.K X.mg X.base CX0 k fI fdI ["self", "word", "at"] (spNU C)) (hb : Binds X.K fdI ["self", "word", "at"] []) (hr : Room (k + 1) X.A)
    (hm : X.mg x = some (.ref C)) (ha : PA X [e, e2] (tTA ρ [tyV x1, tyV y1])) (hg : Gl X x := by rfl) (hdb : (x == ("__debug__" : Str)) = false := by decide) (he : starEach [e, e2] X.env = (false, eval e X.env) :: starEach [e2] X.env := by rfl) (hpl : (backTo cpos (starEach [e2] X.env)).any (·.1) = false := by rfl) :
    PS X (.Raise (some (.Call (.Name x p) [e, e2] [] cpos)) none pos) (tZ ρ E C (nuF x1 y1)) :=
  ps_weak (ps_raise hc tk (pmk_oex N.oex iC tI F1 hr hb .nil pass0 hg hm ha hdb he hpl)) fun D0 σ H q => ⟨q.1, fun vs H1 e1 hv => by
    match vs, hv with
    | [u, v], hv =>
      have eu : u = x1 := hv.1
      have ev : v = y1 := hv.2.1
      subst eu ev
      refine ⟨(show 2 ≤ 1000 by decide), fun a ha => ⟨a, u, v, rfl, upd_same, fun d hd hda => ⟨rfl, d, nuF u v, ?_, upd_same, ?_, ?_⟩⟩⟩
      · rw [upd_ne (Ne.symm hda), upd_same]
      · rw [upd_ne hda] at hd
        exact hd
      · have hd1 : H1 d = none := by
          rw [upd_ne hda] at hd
          exact hd
        refine q.2 d _ (e1.trans (.same fun b o ho => ?_)) upd_same
        have n1 : b ≠ d := ne_of_none ho hd1
        have n2 : b ≠ a := ne_of_none ho ha
        rw [upd_ne n1, del_ne n2, upd_ne n1, upd_ne n2, upd_ne n1, upd_ne n2]
        exact ho⟩
end
theorem fn_X {P : Program} {w : World} {K : PySem.W.Frag} {mg : Str → Option Value} {base : Heap} {x qual : Str} {params : Arguments} {body : List Stmt} {scope : Scope} {dvs : List V} {kws : List (Str × V)} {f C : Addr} {fd : FuncData} {ι : Type} {Ai : ι → List Ty} {fs : List (Str × V)} {N ps : List Str} {k : Nat} (F : FunD K x qual params body scope dvs kws f fd) (S : FnScope N ps scope) (hA : ∀ i, (Ai i).length = ps.length)
    (hb : ∀ (i : ι) (cdv : Value) (A : Around) (outer : List Env) (s : Shared) (H : Hp) (E : XK), Room k (A.deeper (envOfC qual scope s.heap.objs.size f cdv)) → PSs (cxOf (L2.CX P w) P w K mg base N qual scope f cdv A outer s H E) body (tZ (startR N.length (Ai i)) E C fs)) : FnOk P w K mg base (L2.CX P w) (k + 1) f fd ps (spX Ai C fs) :=
  F.ok S (fun vs H Q E h => by
    obtain ⟨i, hv, _⟩ := h
    rw [hv.length, hA]) fun cdv A outer s H vs Q E hr h => by
    obtain ⟨i, hv, q⟩ := h
    exact ⟨_, hb i cdv A outer s H E hr, envT_start hv, q⟩
/-- NotUsable("rule", -1) -/
def nuRule : List (Str × V) := nuF (.str "rule") (.int (-1))
section
variable {P : Program} {w : World} {K : PySem.W.Frag} {mg : Str → Option Value} {base : Heap} {f fI C tb : Addr} {fd fdI : FuncData} {CC : Addr → Prop}
abbrev CUseX (P : Program) (w : World) (K : PySem.W.Frag) (mg : Str → Option Value) (base : Heap) (C : Addr) : Prop := CalX P w K mg base 3 "require_usable" (fun _ : Unit => [tyD K (.bool false), tyD K (.str "rule")]) [] C nuRule
theorem ok_require_usableX (F : DefAt K "require_usable" 33 f fd) (hm : mg "require_usable" = some (.ref f)) (N : NuC K C) (iC : PySem.W.findIn K (.ref C) "__init__" = some (some (.ref fI))) (tI : PySem.W.typeIn K (.ref fI) = some (.type "function")) (F1 : FnOk P w K mg base CX0 1 fI fdI ["self", "word", "at"] (spNU C)) (hb : Binds K fdI ["self", "word", "at"] []) (hN : mg "NotUsable" = some (.ref C)) : CUseX P w K mg base C := by
  refine ⟨f, fd, ["is_usable", "word"], [], fn_X F sc33 (fun _ => rfl) fun i cdv A outer s H E hr => ?_, hm, F.kp, .nil, F.bindsN fun kV doc pm an cdv ct us hl => ?_⟩
  · refine tz_end (tz_if (tt_not (c := false) (tt_val (te_var 0))) (tz_end (tz_raise (x1 := .str "rule") (y1 := .int (-1)) rfl (takes_of rfl rfl rfl rfl) N iC tI F1 hb hr hN (ta_cons ?_ (ta_one ?_ rfl)))))
    · exact te_le (te_var 1 (T := tyD K (.str "rule"))) fun H v h => Dp.str_ h
    · exact te_le (te_negI (te_int (i := 1))) fun H v h => Dp.int_ h
  · match us, hl with
    | [a, b], _ => rfl
structure WxIx where
  T : Tb
  p : Rule
  O : TbOk T
  R : RuleOf T.ls p
  h : p ∈ T.rs
abbrev CWithX (P : Program) (w : World) (K : PySem.W.Frag) (mg : Str → Option Value) (base : Heap) (C : Addr) : Prop := CalX P w K mg base 6 "with_rule" (fun i : WxIx => [tyD K (tbD i.T), tyD K (pairD i.p), tyD K .none]) [.non] C nuRule
theorem ok_with_ruleX (F : FunD K "with_rule" "with_rule" (argsAt 43) (bodyAt 43) (scopeAt 43) [] [("rank", .non)] f fd) (hm : mg "with_rule" = some (.ref f)) (c20 : CRuleOf P w K mg base) (cx33 : CUseX P w K mg base C) : CWithX P w K mg base C := by
  obtain ⟨ds, hds, hbi⟩ := F.binds0 (ps := ["table", "rule", "rank"]) 2 (by decide) rfl (fun D doc pm an cdv ct us ws h1 h2 => by
    match us, h1, ws, h2 with
    | [a, b], _, [c], _ => exact ⟨_, _, _, _, _, _, rfl, rfl, rfl⟩)
  refine ⟨f, fd, ["table", "rule", "rank"], ds, fn_X F sc43 (fun _ => rfl) fun i cdv A outer s H E hr => ?_, hm, F.kp, hds, hbi⟩
  obtain ⟨T, p, O, R, hp⟩ := i
  refine tz_pre (ts_asg (vs := [3, 4, 5]) (te_var 0 (T := tyD K (tbD T))) (tg_tripD 3 4 5 rfl sc43.nd (by decide) (by decide) (by decide)) ?_)
  refine tz_end (tz_expr (tz_fn (i := ()) (Ts := [tyD K (.bool false), tyD K (.str "rule")]) (Ds := []) cx33 (hr.mono (by decide)) (passes_call (takes_of rfl rfl rfl rfl) fun _ _ _ _ h => h) (ta_cons ?_ (ta_one te_str rfl)) (fun _ => True.intro) rfl))
  exact te_and (c := true) (d := false) (te_fn (i := RlIx.mk T.ls p O.ls R) c20 hr (ta_cons (te_var 1) (ta_one (te_var 3) rfl))) fun _ => te_one (te_b (te_notInT (units65 hr) (te_var 1) (te_le (te_var 4 (T := tyD K (rulesD T.rs))) tyD_n) (shD_pair (R.shD O.ls).1 (R.shD O.ls).2).shaped (shD_rs O)) (by rw [inD_pairs, decide_eq_true hp]; rfl))
/-- Table's +, refused -/
theorem ok_tab_addX (F : MethAt K "__add__" "Table.__add__" 52 14 [] f fd) (R : TabC K CC) (cx43 : CWithX P w K mg base C) (c51 : CTabObj P w K mg base tb) : FnOk P w K mg base (L2.CX P w) 12 f fd ["self", "rule"] (spX (fun i : WxIx => [tyTab K CC i.T, tyD K (pairD i.p)]) C nuRule) := by
  refine fn_X F sc52a (fun _ => rfl) fun i cdv A outer s H E hr => ?_
  obtain ⟨T, p, O, RO, hp⟩ := i
  exact tz_end (tz_ret (tz_arg c51 hr (tz_fn (i := WxIx.mk T p O RO hp) (Ts := [tyD K (tbD T), tyD K (pairD p)]) (Ds := [tyD K .none]) cx43 (hr.mono (by decide)) (passes_call (takes_of rfl rfl rfl rfl) fun _ _ _ _ h => h) (ta_cons (fldForm R (te_var 0 (T := tyTab K CC T))) (ta_one (te_var 1) rfl)) (fun H => ⟨.non, True.intro⟩) rfl)))
end
/-! ### o + t, refused -/
section
variable {X : Cx} {ρ : Rho} {pos p : Pos} {a b : Expr} {k : Nat} {f C : Addr} {fd : FuncData} {ps : List Str} {ι : Type} {A : ι → List Ty} {CC : Addr → Prop} {fts : List (Str × Ty)} {ds : List PyData} {fs : List (Str × V)} {E : XK}
theorem tz_binOT {i : ι} {op : Operator} (ha : PE X a (tT ρ (tyO CC fts))) (hb : PE X b (tT ρ (tyD X.K (.tuple ds)))) (S : OpF X.K CC op.info.2 f) (S2 : OpTup X.K CC op.info.2) (F : FnOk X.prog X.w X.K X.mg X.base (L2.CX X.prog X.w) k f fd ps (spX A C fs)) (hr : Room k X.A) (hx : Passes (L2.CX X.prog X.w) X E) (hbd : Binds X.K fd ps []) (hA : A i = [tyO CC fts, tyD X.K (.tuple ds)]) : PE X (.BinOp a op b pos) (tZE ρ E C fs) := by
  have o : OpR X (binaryOp op) (fun x y H Q => (tyO CC fts).p H x ∧ (tyD X.K (.tuple ds)).p H y ∧ zW E C fs H) := by
    intro pins s σ H x y u w Q I rx ry ⟨hx2, hy, q⟩
    obtain ⟨o1, C1, dx, fs1, ft, e1, hC, h3, h4, h5⟩ := id hx2
    obtain ⟨o2, ys, e2, g1, g2⟩ := Dp.tup_ (show Dp X.K H y (.tuple ds) from hy)
    subst e1 e2
    cases (show u = Value.ref o1 from rx)
    cases (show w = Value.ref o2 from ry)
    obtain ⟨mA, O, _, _, _, _⟩ := ins_get I.hok h3
    obtain ⟨od, J, _⟩ := O.look
    obtain ⟨_, _, ⟨ob, p1, p2, _⟩, _⟩ := I.tuple (g1.sq (K := X.K))
    obtain ⟨fo, f1⟩ := S2.fo
    obtain ⟨ro, f2⟩ := S2.ro
    refine bin_T (T := "tuple") I.kIn J (p2 ▸ (PySem.W.Looks.ld p1).andThen .now) (S.first C1 hC) (S.at_ C1 hC) S.fn (S.ref C1 hC) (.inl rfl) f1 f2 (S2.sub C1 hC) (thn (run_fn (E := E) (us := [.ref o1, .ref o2]) (vs := [.ref o1, .ref o2]) F hr hbd .nil hx I (.cons rfl (.cons rfl .nil)) (Q := fun _ _ => False) ⟨i, by rw [hA]; exact ⟨hx2, hy, True.intro⟩, q⟩) fun v s' ⟨z, H', I', rz, g⟩ => g.elim)
  exact pe_weak (pe_op o ha hb) fun σ H Q q => ⟨q.1, fun x H1 e1 hx => ⟨q.1.mono e1, fun y H2 e2 hy => ⟨(tyO CC fts).st e2 hx, hy, q.2.mono (e1.trans e2)⟩⟩⟩
end
end K14
/-! LY: _law_heard(lambda: ..). -/
namespace K14
open PySem PySem.Spec PyProof.Rows L2
def wS : Str := "word"
def atS : Str := "at"
/-- what heard makes of the lambda's reading -/
def TTh (C : Addr) : (XK → Hp → VK → Prop) → Hp → VK → Prop := fun tl H Q =>
  tl (fun cls d H' => ∃ (dd : Addr) (fs : List (Str × V)) (x y : V), cls = .ref C ∧ d = some dd ∧ H' dd = some (.xd fs) ∧ fs.lookup wS = some x ∧ fs.lookup atS = some y ∧ ∀ p, H' p = none → Q (.ref p) (upd H' p (.tup [.str "NotUsable", x, y])))
    H (fun v H' => ([.str "gave", v] : List V).length ≤ sizeLine ∧ ∀ p, H' p = none → Q (.ref p) (upd H' p (.tup [.str "gave", v])))
/-- NotUsable's fields read -/
structure NuX (K : PySem.W.Frag) (C : Addr) : Prop where
  xf : XfC K C
  n1 : PySem.W.findIn K (.ref C) "word" = some none
  n2 : PySem.W.findIn K (.ref C) "at" = some none
  ex : PySem.W.exmOne K (.ref C) (.ref C) = some true
theorem sc63 : FnScope ["_law_ask", "e"] ["_law_ask"] (scopeAt 63) := ⟨rfl, rfl, rfl, by decide +kernel, rfl, by decide +kernel, by decide +kernel⟩
theorem takes_len {X : Cx} {W : WX} (tk : Takes X W) : Takes X (fun cls d σ H => σ.length = X.N.length → W cls d σ H) := fun u s' ⟨a, B, sI, pins, σ, H, cls, d, e, I, nb, up, sky, na, os, ag, w⟩ => tk u s' ⟨a, B, sI, pins, σ, H, cls, d, e, I, nb, up, sky, na, os, ag, w I.len⟩
theorem heard_gives {X : Cx} {C g : Addr} {cdg : Value} {q : Str} (N : NuX X.K C) (hm : X.mg "NotUsable" = some (.ref C)) : LamX.GivesTo X ["_law_ask", "e"] "_law_heard" (scopeAt 63) g cdg (bodyAt 63) "_law_ask" q (TTh C) := by
  intro f c' s H Q tl act hc h
  refine ⟨_, pss_one (ps_try_as (X := (cxOf C8.CX0 X.prog X.w X.K X.mg X.base ["_law_ask", "e"] "_law_heard" (scopeAt 63) g cdg X.A X.stack s H C8.E0).nox) (c := .ref C) (i := 1)
      (tb := fun W D σ H => ∃ Ech : XK, (∀ (cls : Value) (d : Option Addr) (σ' : L2.St) (H' : Hp), σ'.length = 2 → Ech cls d H' → W cls d σ' H') ∧ σ[0]? = some (some (.ref f)) ∧ H c' = some (LamX.CodeO c' q) ∧ tl Ech H (fun v H' => ([.str "gave", v] : List V).length ≤ sizeLine ∧ ∀ p, H' p = none → D.rt (.ref p) (upd H' p (.tup [.str "gave", v]))))
      rfl rfl sc63.nd rfl rfl ⟨rfl, by decide, .inl hm⟩ takes0 (fun W pn xe tk _ => ?_) (fun a oe cls d pn hz hf => pss_one (ps_ret (pe_tup (pa_cons pe_str (pa_cons (pe_xf N.xf N.n1 hz hf (pe_var (i := 1) rfl (.inl rfl))) (pa_cons (pe_xf N.xf N.n2 hz hf (pe_var (i := 1) rfl (.inl rfl))) pa_nil))))))), ?_⟩
  · refine ⟨fun pins s' σ H' D I ⟨Ech, hW, h1, h2, h3⟩ => ?_⟩
    have hp := fun p1 p2 => act _ pn xe Ech p1 p2 (takes_len tk) (fun cls d σ' H' e hl => hW cls d σ' H' hl e)
    exact (pss_one (ps_ret (pe_tup (pa_cons pe_str (pa_cons (hp _ _) pa_nil))))).run pins s' σ H' D I ⟨h1, h2, h3⟩
  · refine ⟨_, fun cls d σ' H' hl ⟨dd, fs, x, y, e1, e2, e3, e4, e5, q⟩ => ⟨true, by rw [e1]; exact N.ex, fun _ a ha => ?_, fun z => nomatch z⟩, rfl, hc, h⟩
    have hs : (σ'.set 1 (some (V.ref a)))[1]? = some (some (V.ref a)) := List.getElem?_set_self (by omega)
    exact ⟨.ref a, hs, rfl, e1, dd, fs, x, e2, e3, e4, .ref a, hs, rfl, e1, dd, fs, y, e2, e3, e5, by show 3 ≤ sizeLine; rw [sizeLine_eq]; omega, q⟩
/-- _law_heard stands in the module -/
structure HeardF (P : Program) (w : World) (K : PySem.W.Frag) (mg : Str → Option Value) (base : Heap) (C : Addr) : Prop where
  df : ∃ g fd, DefAt K "_law_heard" 63 g fd ∧ mg "_law_heard" = some (.ref g)
  nu : NuX K C
  mN : mg "NotUsable" = some (.ref C)
/-- the table of the code object at c, for lambdas of the name q -/
def TabF (base : Heap) (mg : Str → Option Value) (c : Addr) (q : Str) : Prop := ∃ T, LamX.TabB base mg c T ∧ (T, q) ∈ tabsT ∧ ∀ p ∈ tabsT, p.1 = T → p.2 = q
section
variable {X : Cx} {P : Program} {w : World} {K : PySem.W.Frag} {mg : Str → Option Value} {base : Heap} {C c : Addr} {ρ : Rho} {T R : Ty} {params : Arguments} {body : Expr} {scope : Scope} {lpos pos p : Pos} {k : Nat}
theorem extN_gr {H H1 : Hp} (e : LamX.ExtN H H1) (t : LamX.Tabs tabsT H1) : Gr H H1 := by
  refine ⟨fun b o h s => e b o h fun ps z => by rw [z] at s; exact s, fun f cl h => ?_, fun _ => t⟩
  obtain ⟨ns, nx, rs, ct, h1, h2, r⟩ := h
  exact ⟨ns, nx, rs, ct, e _ _ h1 (fun ps z => by cases z), e _ _ h2 (fun ps z => by cases z), r⟩
/-- _law_heard(lambda: body), its reading -/
theorem pe_heard {t : XK → TE} (Hd : HeardF P w K mg base C) (TF : TabF base mg c (X.env.qual ++ "<lambda>")) (hcode : X.env.code = .ref c) (hr : Room (k + 2) X.A) (L : LamX.LamS X.env.scope scope) (hdef : defaultsOf params X.env = ([], []))
    (hbind : ∀ (q : Str) (cl : List (Str × Addr)) (pm cv ctv : Value), bindArgs (PySem.W.kla_fn "<lambda>" q params body scope cl pm cv ctv) ⟨[], []⟩ = pure [])
    (hbody : ∀ (A : Around) (outer : List Env) (s : Shared) (H : Hp) (E : XK) (f c' : Addr), Room k (A.deeper (LamX.lamEnv X scope s.heap.objs.size f c')) → PE (LamX.lamCx X A outer s H E scope f c') body (t E)) (hX : Of X P w K mg base := by exact ⟨rfl, rfl, rfl, rfl, rfl⟩) (hg : Gl X "_law_heard" := by rfl) :
    PE X (.Call (.Name "_law_heard" p) [.Lambda params body scope lpos] [] pos) (LamX.tLam tabsT (TTh C) t) := by
  obtain ⟨h1, h2, h3, h4, h5⟩ := hX
  subst h1 h2 h3 h4 h5
  obtain ⟨g, fd, F, hm⟩ := Hd.df
  obtain ⟨oc, od, dV, kV, doc, pm, an, cdv, ct, osl, e, lk, hcd, hD, hK⟩ := F.ex
  subst e
  obtain ⟨T, TB, m1, m2⟩ := TF
  exact LamX.pe_lamcall hg hm F.kp lk hcd (F.bindsN fun kV doc pm an cdv ct us hl => by
    match us, hl with
    | [a], _ => rfl) sc63 rfl (.inl rfl) (heard_gives Hd.nu Hd.mN) TB hcode m1 m2 hr L hdef hbind hbody
theorem te_lam (hfd : ρ[0]? = some (some tyFeed)) (Hd : HeardF P w K mg base C) (TF : TabF base mg c (X.env.qual ++ "<lambda>")) (hcode : X.env.code = .ref c) (hr : Room (k + 2) X.A) (L : LamX.LamS X.env.scope scope) (hR : ∀ H v p, H p = none → T.p H v → R.p (upd H p (.tup [.str "gave", v])) (.ref p))
    (hbody : ∀ (A : Around) (outer : List Env) (s : Shared) (H : Hp) (E : XK) (f c' : Addr), Room k (A.deeper (LamX.lamEnv X scope s.heap.objs.size f c')) → PE (LamX.lamCx X A outer s H E scope f c') body (tT ρ T)) (hdef : defaultsOf params X.env = ([], []) := by rfl)
    (hbind : ∀ (q : Str) (cl : List (Str × Addr)) (pm cv ctv : Value), bindArgs (PySem.W.kla_fn "<lambda>" q params body scope cl pm cv ctv) ⟨[], []⟩ = pure [] := by intro _ _ _ _ _; rfl) (hX : Of X P w K mg base := by exact ⟨rfl, rfl, rfl, rfl, rfl⟩) (hg : Gl X "_law_heard" := by rfl) :
    PE X (.Call (.Name "_law_heard" p) [.Lambda params body scope lpos] [] pos) (tT ρ R) :=
  pe_weak (pe_heard (t := fun _ => tT ρ T) Hd TF hcode hr L hdef hbind hbody hX hg) fun σ H Q q => by
    obtain ⟨x, _, hT⟩ := q.1.get hfd
    refine ⟨hT.2, fun H1 e1 t1 => ?_⟩
    have g1 := extN_gr e1 t1
    exact ⟨q.1.mono g1, fun v H2 g2 hv => ⟨by show 2 ≤ sizeLine; rw [sizeLine_eq]; omega, fun p hp => q.2 _ _ ((g1.trans g2).trans (Gr.new hp)) (hR H2 v p hp hv)⟩⟩
/-- .. refused -/
def refD : PyData := .tuple [.str "NotUsable", .str "rule", .int (-1)]
theorem te_lamX (hfd : ρ[0]? = some (some tyFeed)) (Hd : HeardF P w K mg base C) (TF : TabF base mg c (X.env.qual ++ "<lambda>")) (hcode : X.env.code = .ref c) (hr : Room (k + 2) X.A) (L : LamX.LamS X.env.scope scope)
    (hbody : ∀ (A : Around) (outer : List Env) (s : Shared) (H : Hp) (E : XK) (f c' : Addr), Room k (A.deeper (LamX.lamEnv X scope s.heap.objs.size f c')) → PE (LamX.lamCx X A outer s H E scope f c') body (tZE ρ E C nuRule)) (hdef : defaultsOf params X.env = ([], []) := by rfl)
    (hbind : ∀ (q : Str) (cl : List (Str × Addr)) (pm cv ctv : Value), bindArgs (PySem.W.kla_fn "<lambda>" q params body scope cl pm cv ctv) ⟨[], []⟩ = pure [] := by intro _ _ _ _ _; rfl) (hX : Of X P w K mg base := by exact ⟨rfl, rfl, rfl, rfl, rfl⟩) (hg : Gl X "_law_heard" := by rfl) :
    PE X (.Call (.Name "_law_heard" p) [.Lambda params body scope lpos] [] pos) (tT ρ (tyD X.K refD)) :=
  pe_weak (pe_heard (t := fun E => tZE ρ E C nuRule) Hd TF hcode hr L hdef hbind hbody hX hg) fun σ H Q q => by
    obtain ⟨x, _, hT⟩ := q.1.get hfd
    refine ⟨hT.2, fun H1 e1 t1 => ?_⟩
    have g1 := extN_gr e1 t1
    refine ⟨q.1.mono g1, fun d H2 g2 hd => ⟨d, nuRule, .str "rule", .int (-1), rfl, rfl, hd, rfl, rfl, fun p hp => q.2 _ _ ((g1.trans g2).trans (Gr.new hp)) ?_⟩⟩
    exact Dp.tupP rfl upd_same (.cons (.str _) (.cons (.str _) (.cons (.int _) .nil)))
theorem gave_D {K : PySem.W.Frag} {d : PyData} : ∀ (H : Hp) (v : V) (p : Addr), H p = none → (tyD K d).p H v → (tyD K (.tuple [.str "gave", d])).p (upd H p (.tup [.str "gave", v])) (.ref p) := fun H v p hp hv =>
  Dp.tupP rfl upd_same (.cons (.str _) (.cons (Gr.dp (Gr.new hp) _ _ hv) .nil))
theorem gave_P {K : PySem.W.Frag} {T : Ty} : ∀ (H : Hp) (v : V) (p : Addr), H p = none → T.p H v → (tyP K (tyD K (.str "gave")) T).p (upd H p (.tup [.str "gave", v])) (.ref p) := fun H v p hp hv =>
  ⟨p, _, _, rfl, .of upd_same, .str _, T.st (Gr.new hp) hv⟩
end
end K14
/-! MA: the law's draws. -/
namespace K14
open PySem PySem.Spec PyProof.Rows L2
/-! ### ints of which little is known -/
def tyI (p : Int → Prop) : Ty := ⟨fun _ v => ∃ i, v = .int i ∧ p i, fun _ h => h⟩
theorem tyI_of {K : PySem.W.Frag} {i : Int} {p : Int → Prop} (h : p i) : (tyD K (.int i)).le (tyI p) := fun H v hv => ⟨i, Dp.int_ hv, h⟩
theorem tyI_le {p q : Int → Prop} (h : ∀ i, p i → q i) : (tyI p).le (tyI q) := fun H v ⟨i, e, hi⟩ => ⟨i, e, h i hi⟩
/-- below m -/
def tyLt (K : PySem.W.Frag) (m : Nat) : Ty := tyEx (fun r : Nat => r < m) (fun r => tyD K (.int (r : Nat)))
theorem tyI_lt {K : PySem.W.Frag} {m : Nat} : (tyI fun i => 0 ≤ i ∧ i < (m : Int)).le (tyLt K m) := fun H v ⟨i, e, h0, h1⟩ => by
  refine ⟨i.toNat, by omega, ?_⟩
  have : ((i.toNat : Nat) : Int) = i := Int.toNat_of_nonneg h0
  show Dp K H v (.int ((i.toNat : Nat) : Int))
  rw [this, e]
  exact .int i
section
variable {X : Cx} {a b e o : Expr} {pos p2 : Pos} {ρ : Rho} {p q r : Int → Prop}
theorem te_binP {op : Operator} {C : Int → Int → Prop} {g : Int → Int → Int} (ho : OpR X (binaryOp op) (rI C fun i j => .int (g i j))) (ha : PE X a (tT ρ (tyI p))) (hb : PE X b (tT ρ (tyI q))) (h : ∀ i j, p i → q j → C i j ∧ r (g i j)) : PE X (.BinOp a op b pos) (tT ρ (tyI r)) :=
  te_op ho ha hb fun x y H Q ⟨i, e1, h1⟩ ⟨j, e2, h2⟩ k => ⟨i, j, e1, e2, (h i j h1 h2).1, k _ H (Gr.refl H) ⟨_, rfl, (h i j h1 h2).2⟩⟩
theorem te_binP0 {op : Operator} {g : Int → Int → Int} (ho : OpR X (binaryOp op) (rI0 fun i j => .int (g i j))) (ha : PE X a (tT ρ (tyI p))) (hb : PE X b (tT ρ (tyI q))) (h : ∀ i j, p i → q j → r (g i j)) : PE X (.BinOp a op b pos) (tT ρ (tyI r)) :=
  te_op ho ha hb fun x y H Q ⟨i, e1, h1⟩ ⟨j, e2, h2⟩ k => ⟨i, j, e1, e2, k _ H (Gr.refl H) ⟨_, rfl, h i j h1 h2⟩⟩
theorem te_intP (hm : X.mg "int" = none) (ha : PE X a (tT ρ (tyI p))) (hg : Gl X "int" := by rfl) (hs : starEach [a] X.env = [(false, eval a X.env)] := by rfl) : PE X (.Call (.Name "int" p2) [a] [] pos) (tT ρ (tyI p)) :=
  te_t1 call_int1 hm PyProof.Rows.boot_int ha (fun v H Q ⟨i, e1, h1⟩ k => .inl ⟨i, by rw [e1], k _ H (Gr.refl H) ⟨i, rfl, h1⟩⟩) hg hs
theorem te_cI {i : Int} {j} (h : p i) : PE X (.Constant (.int i) j pos) (tT ρ (tyI p)) := te_le te_int (tyI_of h)
/-! ### a test of which nothing is known -/
def tTU (ρ : Rho) : TT := fun σ H Q => EnvT H σ ρ ∧ ∀ b H', Gr H H' → Q b H'
theorem tt_u {b : Bool} (h : PT X e (tTB ρ b)) : PT X e (tTU ρ) := pt_weak h fun σ H Q q => ⟨q.1, fun H' g => q.2 b H' g⟩
theorem tt_cmpP {op : CmpOp} {g : Int → Int → Bool} (ho : OpR X (compareOp op) (rI0 fun i j => .bl (g i j))) (ha : PE X a (tT ρ (tyI p))) (hb : PE X b (tT ρ (tyI q))) (hm : behindInMarks op b = false) : PT X (.Compare a [op] [b] pos) (tTU ρ) :=
  pt_weak (pt_cmpR ho ha hb hm) fun σ H Q k => ⟨k.1, fun x H1 e1 ⟨i, e, h1⟩ => ⟨k.1.mono e1, fun y H2 e2 ⟨j, e', h2⟩ => ⟨i, j, e, e', _, rfl, k.2 _ H2 (e1.trans e2)⟩⟩⟩
theorem tt_notU (h : PT X a (tTU ρ)) : PT X (.UnaryOp .Not a pos) (tTU ρ) := pt_weak (pt_not h) fun σ H Q k => ⟨k.1, fun b H' g => k.2 _ H' g⟩
theorem tw_and1U (h : PT X a (tTU ρ)) : PW X (.BoolOp .And [a] pos) (tTU ρ) := pw_and1 h
theorem tw_or1U (h : PT X a (tTU ρ)) : PW X (.BoolOp .Or [a] pos) (tTU ρ) := pw_or1 h
theorem tw_andU {rest : List Expr} (h : PT X a (tTU ρ)) (hb : PW X (.BoolOp .And (b :: rest) pos) (tTU ρ)) : PW X (.BoolOp .And (a :: b :: rest) pos) (tTU ρ) := pw_weak (pw_and h hb) fun σ H Q k => ⟨k.1, fun c H' g => by
  cases c with
  | true => exact iteT ⟨k.1.mono g, fun d H2 g2 => k.2 d H2 (g.trans g2)⟩
  | false => exact iteF (k.2 false H' g)⟩
theorem tw_orU {rest : List Expr} (h : PT X a (tTU ρ)) (hb : PW X (.BoolOp .Or (b :: rest) pos) (tTU ρ)) : PW X (.BoolOp .Or (a :: b :: rest) pos) (tTU ρ) := pw_weak (pw_or h hb) fun σ H Q k => ⟨k.1, fun c H' g => by
  cases c with
  | true => exact iteT (k.2 true H' g)
  | false => exact iteF ⟨k.1.mono g, fun d H2 g2 => k.2 d H2 (g.trans g2)⟩⟩
theorem ts_ifU {c : Expr} {body orelse : List Stmt} {D : TEnds} (hc : PT X c (tTU ρ)) (h1 : PSs X body (tS ρ D)) (h2 : PSs X orelse (tS ρ D)) : PS X (.If c body orelse pos) (tS ρ D) :=
  ps_weak (ps_if hc h1 h2) fun D0 σ H q => ⟨q.1, fun b H1 e1 => by
    cases b with
    | true => exact iteT ⟨q.1.mono e1, q.2.mono e1⟩
    | false => exact iteF ⟨q.1.mono e1, q.2.mono e1⟩⟩
end
/-! ### the drawing dict -/
def feedKv (cl : Addr) (nx rs ct : Int) : List (Key × V) := [(Sum.inr "cells", .ref cl), (Sum.inr "next", .int nx), (Sum.inr "rest", .int rs), (Sum.inr "count", .int ct)]
structure FdOk (cl : Addr) (ns : List Int) (nx rs : Int) (H : Hp) : Prop where
  at_ : H cl = some (.lst (ns.map V.int))
  len : ns.length ≤ 63
  hnx : 0 ≤ nx
  hrs : 0 ≤ rs
  big : rs.natAbs < 2 ^ 1048576
  all : ∀ z ∈ ns, z.natAbs < 2 ^ 1048576
theorem feed_gr {H : Hp} {f cl : Addr} {ns : List Int} {nx rs ct nx' rs' ct' : Int} (h : H f = some (.dK (feedKv cl nx rs ct))) (k : FdOk cl ns nx rs H) (h1 : 0 ≤ nx') (h2 : 0 ≤ rs') (h3 : rs'.natAbs < 2 ^ 1048576) : Gr H (upd H f (.dK (feedKv cl nx' rs' ct'))) := by
  have nf : ∀ b o, H b = some o → (∀ kvs, o ≠ .dK kvs) → upd H f (.dK (feedKv cl nx' rs' ct')) b = some o := fun b o e n => by
    have : b ≠ f := fun z => by
      rw [z, h] at e
      exact n _ (Option.some.inj e).symm
    rw [upd_ne this]
    exact e
  refine ⟨fun b o e s => nf b o e fun kvs z => by rw [z] at s; exact s, fun f2 cl2 h2' => ?_, fun ht p hp => ?_⟩
  · obtain ⟨ns2, nx2, rs2, ct2, a1, a2, a3, a4, a5, a6, a7⟩ := h2'
    by_cases e : f2 = f
    · subst e
      rw [h] at a1
      have e1 : feedKv cl nx rs ct = feedKv cl2 nx2 rs2 ct2 := by
        injection a1 with a1
        injection a1
      have e2 : cl = cl2 := by
        unfold feedKv at e1
        injection e1 with e1 _
        injection e1 with _ e1
        injection e1
      subst e2
      exact ⟨ns2, nx', rs', ct', upd_same, nf _ _ a2 (fun _ z => by cases z), a3, h1, h2, h3, a7⟩
    · exact ⟨ns2, nx2, rs2, ct2, by rw [upd_ne e]; exact a1, nf _ _ a2 (fun _ z => by cases z), a3, a4, a5, a6, a7⟩
  · obtain ⟨ps, b1, b2, b3⟩ := ht p hp
    refine ⟨ps, nf _ _ b1 (fun _ z => by cases z), b2, fun pos cv hc => ?_⟩
    obtain ⟨c, c1, c2⟩ := b3 pos cv hc
    exact ⟨c, c1, nf _ _ c2 (fun _ z => by unfold LamX.CodeO at z; cases z)⟩
theorem feed_un {H : Hp} {f cl : Addr} (h : FeedOk f cl H) : ∃ ns nx rs ct, H f = some (.dK (feedKv cl nx rs ct)) ∧ FdOk cl ns nx rs H := by
  obtain ⟨ns, nx, rs, ct, h1, h2, h3, h4, h5, h6, h7⟩ := h
  exact ⟨ns, nx, rs, ct, h1, h2, h3, h4, h5, h6, h7⟩
section
variable {X : Cx} {o e : Expr} {pos p1 p2 : Pos} {ρ : Rho} {T : Ty} {j : Nat}
theorem te_feed {key : Str} (hu : X.A.units + 1 < cLine) (ho : PE X o (tT ρ tyFeed)) (hk : ∀ H cl ns nx rs ct, FdOk cl ns nx rs H → ∃ v, valV (feedKv cl nx rs ct) (Sum.inr key) = some v ∧ T.p H v) (hs : NoSl (.Constant (.str key) j p2) := by exact fun _ _ => rfl) : PE X (.Subscript o (.Constant (.str key) j p2) pos) (tT ρ T) :=
  pe_weak (pe_dget hu ho pe_str hs) fun σ H Q q => ⟨q.1, fun v H1 e1 ⟨⟨f, cl, ev, hf⟩, _⟩ => by
    obtain ⟨ns, nx, rs, ct, h1, h2⟩ := feed_un hf
    obtain ⟨y, h3, h4⟩ := hk H1 cl ns nx rs ct h2
    exact ⟨f, y, ev, h3 ▸ DGet.k (k := Sum.inr key) h1, q.2 y H1 e1 h4⟩⟩
def anyI : Int → Prop := fun _ => True
def bigI : Int → Prop := fun i => 0 ≤ i ∧ i.natAbs < 2 ^ 1048576
theorem te_fcount (hu : X.A.units + 1 < cLine) (ho : PE X o (tT ρ tyFeed)) : PE X (.Subscript o (.Constant (.str "count") j p2) pos) (tT ρ (tyI anyI)) := te_feed hu ho fun H cl ns nx rs ct k => ⟨.int ct, rfl, ct, rfl, True.intro⟩
theorem te_frest (hu : X.A.units + 1 < cLine) (ho : PE X o (tT ρ tyFeed)) : PE X (.Subscript o (.Constant (.str "rest") j p2) pos) (tT ρ (tyI bigI)) := te_feed hu ho fun H cl ns nx rs ct k => ⟨.int rs, rfl, rs, rfl, k.hrs, k.big⟩
def tyNat (K : PySem.W.Frag) : Ty := tyEx (fun _ : Nat => True) (fun k => tyD K (.int (k : Nat)))
theorem te_fnext (hu : X.A.units + 1 < cLine) (ho : PE X o (tT ρ tyFeed)) : PE X (.Subscript o (.Constant (.str "next") j p2) pos) (tT ρ (tyNat X.K)) := te_feed hu ho fun H cl ns nx rs ct k => ⟨.int nx, rfl, nx.toNat, True.intro, by
  show Dp X.K H (.int nx) (.int ((nx.toNat : Nat) : Int))
  rw [Int.toNat_of_nonneg k.hnx]
  exact .int _⟩
structure CellsOk (ns : List Int) : Prop where
  len : ns.length ≤ 63
  all : ∀ z ∈ ns, z.natAbs < 2 ^ 1048576
def tyCells (K : PySem.W.Frag) : Ty := tyEx CellsOk (fun ns => tyD K (.list (ns.map .int)))
theorem dp_ints {K : PySem.W.Frag} {H : Hp} : ∀ ns : List Int, DpAll K H (ns.map V.int) (ns.map PyData.int)
  | [] => .nil
  | n :: ns => .cons (.int n) (dp_ints ns)
theorem te_fcells (hu : X.A.units + 1 < cLine) (ho : PE X o (tT ρ tyFeed)) : PE X (.Subscript o (.Constant (.str "cells") j p2) pos) (tT ρ (tyCells X.K)) := te_feed hu ho fun H cl ns nx rs ct k => ⟨.ref cl, rfl, ns, ⟨k.len, k.all⟩, .lst k.at_ (dp_ints ns)⟩
theorem ts_fput {key : Str} {D : TEnds} {p : Int → Prop} (hu : X.A.units + 1 < cLine) (ho : PE X o (tT ρ tyFeed)) (he : PE X e (tT ρ (tyI p))) (hk : ∀ i cl nx rs ct, 0 ≤ nx → bigI rs → p i → ∃ nx' rs' ct', putK (feedKv cl nx rs ct) (Sum.inr key) (.int i) = feedKv cl nx' rs' ct' ∧ 0 ≤ nx' ∧ bigI rs') (hn : D.nx ρ)
    (hs : swapsWith e (some (.Subscript o (.Constant (.str key) j p2) p1)) pos.line X.env = pure false := by rfl) : PS X (.Assign [.Subscript o (.Constant (.str key) j p2) p1] e pos) (tS ρ D) :=
  ps_weak (ps_dput hu ho pe_str he hs) fun D0 σ H q => ⟨q.1, fun v H1 e1 ⟨i, ev, hi⟩ => ⟨q.1.mono e1, fun x H2 e2 ⟨⟨f, cl, ex, hf⟩, _⟩ => by
    subst ev ex
    obtain ⟨ns, nx, rs, ct, h1, h2⟩ := feed_un hf
    obtain ⟨nx', rs', ct', e3, h3, h4⟩ := hk i cl nx rs ct h2.hnx ⟨h2.hrs, h2.big⟩ hi
    have g := (e1.trans e2).trans (feed_gr (ct' := ct') h1 h2 h3 h4.1 h4.2)
    exact ⟨f, _, rfl, e3 ▸ DPut.k (k := Sum.inr key) h1 (by rw [sizeLine_eq]; show 4 < _; omega), q.2.nx ρ σ _ hn (q.1.mono g) g⟩⟩⟩
end
structure DrIx where
  m : Nat
  h0 : 0 < m
  h1 : m < 1000000
section
variable {P : Program} {w : World} {K : PySem.W.Frag} {mg : Str → Option Value} {base : Heap} {f : Addr} {fd : FuncData}
abbrev CDraw (P : Program) (w : World) (K : PySem.W.Frag) (mg : Str → Option Value) (base : Heap) : Prop := Cal P w K mg base 1 "_law_draw" (fun i : DrIx => [tyFeed, tyD K (.int (i.m : Nat))]) (fun i => tyLt K i.m)
abbrev drN : List Str := ["_law_feed_here", "_law_many", "_law_digit", "_law_cells", "_law_k", "_law_cell", "_law_mixed"]
theorem sc57 : FnScope drN ["_law_feed_here", "_law_many"] (scopeAt 57) := ⟨rfl, rfl, rfl, by decide +kernel, rfl, by decide +kernel, by decide +kernel⟩
theorem div_big {i : Int} {m : Nat} (h : bigI i) (h0 : 0 < m) : bigI (i / (m : Int)) := by
  refine ⟨Int.ediv_nonneg h.1 (Int.natCast_nonneg _), ?_⟩
  have : i.natAbs / m ≤ i.natAbs := Nat.div_le_self _ _
  have e : (i / (m : Int)).natAbs = i.natAbs / m := by
    obtain ⟨n, rfl⟩ := Int.eq_ofNat_of_zero_le h.1
    rfl
  rw [e]
  exact Nat.lt_of_le_of_lt this h.2
theorem ok_law_draw (F : DefAt K "_law_draw" 57 f fd) (hm : mg "_law_draw" = some (.ref f)) (B : Free mg) : CDraw P w K mg base := by
  refine cal_of F hm sc57 (fun kV doc pm an cdv ct us hl => ?_) (fun _ => rfl) fun i cdv A outer s H E hr => ?_
  · match us, hl with
    | [a, b], _ => rfl
  · obtain ⟨m, m0, m1⟩ := i
    have hu := hu_of hr
    have mm : (0 : Int) < (m : Int) := Int.natCast_pos.mpr m0
    have mod_lt : ∀ i j : Int, j = (m : Int) → 0 < j ∧ (0 ≤ i % j ∧ i % j < (m : Int)) := fun i j e => by
      subst e
      exact ⟨mm, Int.emod_nonneg _ (by omega), Int.emod_lt_of_pos _ mm⟩
    refine ts_cons (ts_fput (p := anyI) hu (te_var 0) (te_binP0 op_add (te_fcount hu (te_var 0)) (te_cI (p := anyI) True.intro) fun _ _ _ _ => True.intro) (fun i cl nx rs ct h1 h2 _ => ⟨nx, rs, i, rfl, h1, h2⟩) ?_)
    refine ts_cons (ts_ifU (tt_cmpP op_gt (te_frest hu (te_var 0)) (te_cI (p := anyI) True.intro) (nomark _)) ?_ (ts_nil ?_))
    · refine ts_cons (ts_set 2 (T := tyLt K m) (te_le (te_binP op_mod (te_intP B.int (te_frest hu (te_var 0))) (te_le (te_var 1) (tyI_of (p := fun j => j = (m : Int)) rfl)) fun i j _ e => mod_lt i j e) tyI_lt) ?_ sc57.nd)
      refine ts_cons (ts_fput (p := bigI) hu (te_var 0) (te_binP op_fdiv (te_frest hu (te_var 0)) (te_le (te_var 1) (tyI_of (p := fun j => j = (m : Int)) rfl)) fun i j hi e => ?_) (fun i cl nx rs ct h1 h2 h3 => ⟨nx, i, ct, rfl, h1, h3⟩) ?_)
      · subst e
        exact ⟨⟨mm, by omega⟩, div_big hi m0⟩
      · exact ts_one (ts_ret (te_var 2))
    refine ts_cons (ts_par (i := 3) (j := 4) (ta_cons (te_fcells hu (te_var 0)) (ta_one (te_fnext hu (te_var 0)) rfl)) ?_ rfl sc57.nd)
    refine ts_open 3 rfl fun ns hns => ts_open 4 rfl fun k _ => ?_
    have hlen : lenD (.list (ns.map PyData.int)) = some ns.length := congrArg some (List.length_map ..)
    have hl63 : ns.length ≤ 1000000 := Nat.le_trans hns.len (by decide)
    have item : ∀ i : Nat, (h : i < ns.length) → atI (ns.map PyData.int) ((i : Nat) : Int) = some (.int ns[i]) := fun i h => atI_nat (j := i) (by rw [List.getElem?_map, List.getElem?_eq_getElem h]; rfl)
    refine ts_cons (ts_fput (p := fun i => 0 ≤ i) hu (te_var 0) (te_le (te_addI (te_var 4) (te_int (i := 1))) (tyI_of (by show (0 : Int) ≤ (k : Int) + 1; omega))) (fun i cl nx rs ct h1 h2 h3 => ⟨i, rs, ct, rfl, h3, h2⟩) ?_)
    refine ts_cons (ts_if (k := decide ((k : Int) < (ns.length : Int)) && (if h : k < ns.length then decide ((10 : Int) ^ (18 : Int).toNat ≤ ns[k]) else false)) (PW.pt (tw_and (tt_lt (te_var 4) (te_len (d := .list (ns.map .int)) B.len (te_var 3) hlen hl63)) fun h => tw_and1 ?_)) (fun h => ?_) fun _ => ts_nil ?_)
    · have h' : k < ns.length := by
        have := of_decide_eq_true h
        omega
      rw [dif_pos h']
      exact tt_ge (te_ixL (te_var 3) (te_var 4) (item k h')) (te_binI op_pow te_int te_int ⟨by decide, by decide, by decide⟩)
    · rw [Bool.and_eq_true] at h
      have h' : k < ns.length := by
        have := of_decide_eq_true h.1
        omega
      rw [dif_pos h'] at h
      have h18 := of_decide_eq_true h.2
      have hb : bigI ns[k] := ⟨Int.le_trans (by decide) h18, hns.all _ (List.getElem_mem h')⟩
      refine ts_cons (ts_fput (p := bigI) hu (te_var 0) (te_binP op_fdiv (te_le (te_ixL (te_var 3) (te_var 4) (item k h')) (tyI_of (p := bigI) hb)) (te_le (te_var 1) (tyI_of (p := fun j => j = (m : Int)) rfl)) fun i j hi e => ?_) (fun i cl nx rs ct h1 h2 h3 => ⟨nx, i, ct, rfl, h1, h3⟩) ?_)
      · subst e
        exact ⟨⟨mm, by omega⟩, div_big hi m0⟩
      · exact ts_one (ts_ret (te_le (te_binP op_mod (te_intP B.int (te_le (te_ixL (te_var 3) (te_var 4) (item k h')) (tyI_of (p := anyI) True.intro))) (te_le (te_var 1) (tyI_of (p := fun j => j = (m : Int)) rfl)) fun i j _ e => mod_lt i j e) tyI_lt))
    · refine ts_cons (ts_set 5 (T := tyI anyI) (te_ite (c := decide ((0 : Int) < (ns.length : Int))) (tt_gt (te_len (d := .list (ns.map .int)) B.len (te_var 3) hlen hl63) te_int) (fun h => ?_) fun _ => te_cI True.intro) ?_ sc57.nd)
      · have hp := of_decide_eq_true h
        have hp' : 0 < ns.length := by omega
        have hk : k % ns.length < ns.length := Nat.mod_lt _ hp'
        refine te_le (te_ixL (d := .int ns[k % ns.length]) (i := (k : Int) % (ns.length : Int)) (te_var 3) (te_modI (te_int1 B.int (te_var 4)) (te_len (d := .list (ns.map .int)) B.len (te_var 3) hlen hl63) hp) ?_) (tyI_of True.intro)
        exact item (k % ns.length) hk
      let small : Int → Prop := fun i => 0 ≤ i ∧ i < 2147483629
      refine ts_cons (ts_set 6 (T := tyI small) (te_binP op_mod (te_intP B.int (te_binP0 (r := anyI) op_add (te_binP0 (r := anyI) op_add (te_binP (r := anyI) op_mul (te_binP (r := anyI) op_mod (te_intP B.int (te_var 5)) (te_cI (p := fun i => i = 1000003) rfl) fun i j _ e => ⟨by omega, True.intro⟩) (te_cI (p := fun i => i = 3571) rfl) fun i j _ e => ⟨.inr ⟨by omega, by omega⟩, True.intro⟩) (te_binP (r := anyI) op_mul (te_fcount hu (te_var 0)) (te_cI (p := fun i => i = 104651) rfl) fun i j _ e => ⟨.inr ⟨by omega, by omega⟩, True.intro⟩) fun _ _ _ _ => True.intro) (te_cI (p := anyI) True.intro) fun _ _ _ _ => True.intro)) (te_cI (p := fun i => i = 2147483629) rfl) fun i j _ e => ?_) ?_ sc57.nd)
      · subst e
        exact ⟨by decide, Int.emod_nonneg _ (by decide), Int.emod_lt_of_pos _ (by decide)⟩
      refine ts_cons (ts_set 6 (T := tyI small) (te_binP op_mod (te_intP B.int (te_binP0 (r := anyI) op_add (te_binP0 (r := anyI) op_add (te_binP (r := anyI) op_mul (te_var 6 (T := tyI small)) (te_var 6 (T := tyI small)) fun i j h1 h2 => ⟨.inr ⟨by have := h2.1; omega, by have := h2.2; omega⟩, True.intro⟩) (te_binP (r := anyI) op_mul (te_fcount hu (te_var 0)) (te_cI (p := fun i => i = 7919) rfl) fun i j _ e => ⟨.inr ⟨by omega, by omega⟩, True.intro⟩) fun _ _ _ _ => True.intro) (te_cI (p := anyI) True.intro) fun _ _ _ _ => True.intro)) (te_cI (p := fun i => i = 2147483587) rfl) fun i j _ e => ?_) ?_ sc57.nd)
      · subst e
        exact ⟨by decide, Int.emod_nonneg _ (by decide), Int.lt_trans (Int.emod_lt_of_pos _ (by decide)) (by decide)⟩
      refine ts_cons (ts_set 6 (T := tyI small) (te_binP op_mod (te_intP B.int (te_binP0 (r := anyI) op_add (te_binP0 (r := anyI) op_add (te_binP (r := anyI) op_mul (te_var 6 (T := tyI small)) (te_var 6 (T := tyI small)) fun i j h1 h2 => ⟨.inr ⟨by have := h2.1; omega, by have := h2.2; omega⟩, True.intro⟩) (te_binP (r := anyI) op_mul (te_cI (p := fun i => i = 613) rfl) (te_var 6 (T := tyI small)) fun i j e h2 => ⟨.inl ⟨by omega, by omega⟩, True.intro⟩) fun _ _ _ _ => True.intro) (te_cI (p := anyI) True.intro) fun _ _ _ _ => True.intro)) (te_cI (p := fun i => i = 2147483563) rfl) fun i j _ e => ?_) ?_ sc57.nd)
      · subst e
        exact ⟨by decide, Int.emod_nonneg _ (by decide), Int.lt_trans (Int.emod_lt_of_pos _ (by decide)) (by decide)⟩
      exact ts_one (ts_ret (te_le (te_binP op_mod (te_intP B.int (te_binP (r := anyI) op_fdiv (te_var 6 (T := tyI small)) (te_cI (p := fun i => i = 128) rfl) fun i j _ e => ⟨⟨by omega, by omega⟩, True.intro⟩)) (te_le (te_var 1) (tyI_of (p := fun j => j = (m : Int)) rfl)) fun i j _ e => mod_lt i j e) tyI_lt))
end
end K14
/-! MB: comprehensions of a drawn length; pick, piece, letters. -/
namespace K14
open PySem PySem.Spec PyProof.Rows L2
/-! ### walks of which the length is drawn -/
def tIx {ι : Type} (ρ : Rho) (P : ι → Prop) (n : ι → Nat) (item : ι → Nat → Ty) : TI := fun σ H R => EnvT H σ ρ ∧ ∀ z, P z → ∀ J H' G, Gr H H' → WalkT J (n z) (item z) G → G H' → R J H'
section
variable {X : Cx} {tg e elt : Expr} {ρ : Rho} {pos p2 : Pos} {ι : Type} {P : ι → Prop} {n : ι → Nat} {item : ι → Nat → Ty} {vs : List Nat} {p : ι → Nat → Bool} {el : ι → Nat → Ty} {nxt : ι → Nat → Rho}
theorem lc_readX (hn : ∀ z, P z → n z ≤ 1000000) (σ : L2.St) (H : Hp) (Q : VK) (q : tT ρ (tyEx P fun z => tyL (took (n z) (p z) (el z))) σ H Q) :
    tLc (tIx ρ P n item) (fun v σ H Q => ∃ z, P z ∧ lcG ρ vs (n z) (item z) (nxt z) v σ H Q) (fun σ H Q => ∃ z, P z ∧ lcT (n z) (p z) (nxt z) σ H Q) (fun σ H Q => ∃ z, P z ∧ lcE (n z) (p z) (el z) (nxt z) σ H Q) vs σ H Q := by
  refine ⟨q.1, fun z hz J H1 G e1 w g D nD => ?_⟩

  have hd0 : ∀ o, hide [D] (upd H1 D o) = H1 := fun o => by
    rw [hide_upd (List.mem_singleton.mpr rfl)]
    funext b
    by_cases hb : b ∈ [D]
    · rw [hide_in hb, List.mem_singleton.mp hb, nD]
    · rw [hide_out hb]
  have back : ∀ (H' : Hp) (acc : List V), H' D = some (.lst acc) → Gr (hide [D] H') H' := fun H' acc _ => .same hide_same
  refine ⟨fun i m H' => m = n z - i ∧ i ≤ n z ∧ G (hide [D] H') ∧ Gr H1 (hide [D] H') ∧ ∃ acc, H' D = some (.lst acc) ∧ AllT (hide [D] H') acc (took i (p z) (el z)), ⟨n z, by simp, Nat.zero_le _, by rw [hd0]; exact g, by rw [hd0]; exact Gr.refl _, [], upd_same, True.intro⟩, ?_⟩
  rintro i m H' ⟨rfl, hi', gH, eH, acc, hD, hA⟩
  have gH' : G H' := w.st _ _ (back H' acc hD) gH
  have ownH : ∀ H2, H2 D = some (.lst acc) → Own [D] H2 := fun H2 h b hb => .inl ⟨acc, by rw [List.mem_singleton.mp hb]; exact h⟩
  have mD : D ∈ [D] := List.mem_singleton.mpr rfl
  by_cases hlt : i < n z
  · refine .inr ⟨w.goes i H' hlt gH', fun H2 => G (hide [D] H2) ∧ Gr H1 (hide [D] H2) ∧ ∃ acc, H2 D = some (.lst acc) ∧ AllT (hide [D] H2) acc (took (i + 1) (p z) (el z)), fun H2 y0 => ⟨n z - (i + 1), by omega, rfl, hlt, y0⟩, fun x H2 y => ?_⟩
    obtain ⟨e20, hx⟩ := w.yields [D] i H' x H2 hlt (fun b hb => by rw [List.mem_singleton.mp hb, hD]; exact fun y => by cases y) gH y
    have e2 : Gr (hide [D] H') (hide [D] H2) := .same (hide_mono e20)
    have hE : EnvT (hide [D] H2) (L2.wipe σ vs) (wipeR ρ vs) := (q.1.mono ((e1.trans eH).trans e2)).wipe _
    refine ⟨z, hz, i, hlt, [D], ownH H2 (e20 D _ hD), hE, hx, fun σ3 H3 b3 hE3 hw => ⟨hw.trans (wipe_wipe σ _ _ fun _ y => y), z, hz, i, hlt, [D], ownH H3 ((b3.own D mD).trans (e20 D _ hD)), hE3, fun H4 b4 => ?_⟩⟩
    have h4D : H4 D = some (.lst acc) := (b4.own D mD).trans ((b3.own D mD).trans (e20 D _ hD))
    have e24 : Gr (hide [D] H') (hide [D] H4) := (e2.trans b3.gr).trans b4.gr
    cases hpi : p z i with
    | true =>
      refine iteT ⟨z, hz, i, ⟨hlt, hpi⟩, [D], ownH H4 h4D, hE3.mono b4.gr, fun v H5 b5 hv => ?_⟩
      have h5D : H5 D = some (.lst acc) := (b5.own D mD).trans h4D
      have e25 : Gr (hide [D] H') (hide [D] H5) := e24.trans b5.gr
      have hlen : acc.length ≤ n z := by
        rw [hA.length]
        exact Nat.le_trans (took_len i (p z) (el z)) hi'
      refine ⟨acc, h5D, by rw [sizeLine_eq]; have := hn z hz; omega, ?_⟩
      show G (hide [D] (upd H5 D (HO.lst (acc ++ [v])))) ∧ Gr H1 (hide [D] (upd H5 D (HO.lst (acc ++ [v])))) ∧ ∃ acc', upd H5 D (HO.lst (acc ++ [v])) D = some (HO.lst acc') ∧ AllT (hide [D] (upd H5 D (HO.lst (acc ++ [v])))) acc' (took (i + 1) (p z) (el z))
      rw [hide_upd mD]
      refine ⟨w.st _ _ e25 gH, eH.trans e25, acc ++ [v], upd_same, ?_⟩
      rw [took_succ, if_pos hpi]
      exact (hA.mono e25).app ⟨hv, True.intro⟩
    | false =>
      refine iteF ⟨w.st _ _ e24 gH, eH.trans e24, acc, h4D, ?_⟩
      rw [took_succ, if_neg (by rw [hpi]; exact Bool.false_ne_true)]
      exact hA.mono e24
  · have e : i = n z := by omega
    subst e
    exact .inl ⟨w.stops H' gH', q.2 _ H' ((e1.trans eH).trans (back H' acc hD)) ⟨z, hz, D, acc, rfl, hD, hA.mono (back H' acc hD)⟩⟩

/-- [elt for tg in e if ..], the length drawn -/
theorem te_lcX {ifs : List Expr} {scope : Scope} (own : List (Str × Nat)) (hc : X.calm = true) (hN : X.N.Nodup) (hi : PI X tg e (tIx ρ P n item)) (hn : ∀ z, P z → n z ≤ 1000000) (ok : BlkOk X.N X.env.scope scope own) (L : ∀ z, P z → LcOk X tg elt ifs scope ρ (own.map (·.2)) (n z) (item z) (p z) (el z) (nxt z))
    (hs : ∀ x, foldedSetIterable e X.env x = pure x := by intro _; rfl) : PE X (.ListComp elt [⟨tg, e, ifs, 0⟩] scope pos) (tT ρ (tyEx P fun z => tyL (took (n z) (p z) (el z)))) :=
  pe_weak (pe_lc hc hN hi ok (fun s H C cl fp => ⟨fun pins s' σ H v u Q I r ⟨z, hz, h⟩ => ((L z hz).tgt s _ C cl fp).run pins s' σ H v u Q I r h⟩) (fun s H C cl fp => ⟨fun pins s' σ H Q I ⟨z, hz, h⟩ => ((L z hz).tst s _ C cl fp).run pins s' σ H Q I h⟩) (fun s H C cl fp => ⟨fun pins s' σ H Q I ⟨z, hz, h⟩ => ((L z hz).elt_ s _ C cl fp).run pins s' σ H Q I h⟩) hs) fun σ H Q q => lc_readX hn σ H Q q
theorem ti_rangeX {a : Expr} {m : ι → Int} (hm : X.mg "range" = none) (ha : PE X a (tT ρ (tyEx P fun z => tyD X.K (.int (m z))))) (hb : ∀ z, P z → -1000000 ≤ m z ∧ m z ≤ 1000000) (hg : Gl X "range" := by rfl) (hs : starEach [a] X.env = [(false, eval a X.env)] := by rfl) :
    PI X tg (.Call (.Name "range" p2) [a] [] pos) (tIx ρ P (fun z => (m z).toNat) (fun _ i => tyD X.K (.int (i : Nat)))) := pi_weak (pi_range1 hg hm (ta_cons (Ts := []) ha ta_nil (by rw [hs]; rfl)) hs) fun σ H R q => ⟨q.1, fun vs H1 e1 hv => by
  match vs, hv with
  | [v], hv =>
    obtain ⟨z, hz, hv0⟩ := hv.1
    cases (show Dp X.K H1 v (.int (m z)) from hv0)
    have hb' := hb z hz
    refine ⟨m z, rfl, by omega, by omega, q.2 z hz _ H1 (fun _ => True) e1 ⟨fun _ _ _ _ => True.intro, fun i H hi _ => hi, fun H _ => Nat.le_refl _, fun Ds i H x H' hi _ _ y => ?_⟩ True.intro⟩
    obtain ⟨rfl, rfl⟩ := y
    exact ⟨Same.refl _, by
      show Dp X.K _ (.int (0 + (i : Int))) (.int (i : Int))
      rw [Int.zero_add]
      exact .int _⟩⟩
theorem tyEx_map {ι κ : Type} {P : ι → Prop} {Q : κ → Prop} {T : ι → Ty} {U : κ → Ty} (g : ι → κ) (h1 : ∀ z, P z → Q (g z)) (h2 : ∀ z, P z → (T z).le (U (g z))) : (tyEx P T).le (tyEx Q U) := fun H v ⟨z, hz, hv⟩ => ⟨g z, h1 z hz, h2 z hz H v hv⟩
theorem tyEx_out {ι : Type} {P : ι → Prop} {T : ι → Ty} {U : Ty} (h : ∀ z, P z → (T z).le U) : (tyEx P T).le U := fun H v ⟨z, hz, hv⟩ => h z hz H v hv
theorem tyEx_in {ι : Type} {P : ι → Prop} {T : ι → Ty} (z : ι) (hz : P z) : (T z).le (tyEx P T) := fun H v hv => ⟨z, hz, hv⟩
/-- drawn data, gathered -/
theorem allT_ex {K : PySem.W.Frag} {H : Hp} {α : Type} {P : α → Prop} {f : α → PyData} : ∀ {vs : List V} {m : Nat}, AllT H vs (List.replicate m (tyEx P fun x => tyD K (f x))) → ∃ xs : List α, xs.length = m ∧ (∀ x ∈ xs, P x) ∧ DpAll K H vs (xs.map f)
  | [], 0, _ => ⟨[], rfl, (fun x hx => nomatch hx), DpAll.nil⟩
  | v :: vs, m + 1, h => by
    obtain ⟨⟨x, hx, hv⟩, h2⟩ := (show (tyEx P fun x => tyD K (f x)).p H v ∧ AllT H vs (List.replicate m (tyEx P fun x => tyD K (f x))) from h)
    obtain ⟨xs, l, a, b⟩ := allT_ex h2
    refine ⟨x :: xs, congrArg (· + 1) l, fun y hy => ?_, .cons hv b⟩
    rcases List.mem_cons.mp hy with e | e
    · exact e ▸ hx
    · exact a y e
def tyGot {α : Type} (K : PySem.W.Frag) (m : Nat) (P : α → Prop) (f : α → PyData) : Ty := tyEx (fun xs : List α => xs.length = m ∧ ∀ x ∈ xs, P x) (fun xs => tyTL K (xs.map f))
theorem tyL_got {K : PySem.W.Frag} {α : Type} {m : Nat} {P : α → Prop} {f : α → PyData} : (tyL (took m (fun _ => true) fun _ => tyEx P fun x => tyD K (f x))).le (tyGot K m P f) := fun H v ⟨a, vs, h1, h2, h3⟩ => by
  rw [took_const] at h3
  obtain ⟨xs, l, p, q⟩ := allT_ex h3
  exact ⟨xs, ⟨l, p⟩, a, vs, h1, h2, q⟩
end
/-! ### drawn texts -/
section
variable {X : Cx} {a e : Expr} {ρ : Rho} {pos p apos : Pos} {ι : Type} {P : ι → Prop}
theorem te_tupSX {z : ι → Str} (hc : X.calm = true) (hm : X.mg "tuple" = none) (ha : PE X a (tT ρ (tyEx P fun i => tyD X.K (.str (z i))))) (hz : ∀ i, P i → (z i).length ≤ 1000000) (hg : Gl X "tuple" := by rfl) (hs : starEach [a] X.env = [(false, eval a X.env)] := by rfl) : PE X (.Call (.Name "tuple" p) [a] [] pos) (tT ρ (tyEx P fun i => tyD X.K (strsD (sigs (z i))))) :=
  te_t1 (call_tupS hc) hm PyProof.Rows.boot_tuple ha (fun v H Q ⟨i, hi, hv⟩ k => ⟨z i, by rw [Dp.str_ hv], hz i hi, fun l hl => k _ _ (Gr.new hl) ⟨i, hi, Dp.tupP (isRs_strs _) upd_same (dp_strs _)⟩⟩) hg hs
theorem te_joinX {z : Str} {ys : ι → List Str} (ho : PE X a (tT ρ (dS X z))) (he : PE X e (tT ρ (tyEx P fun i => tyTL X.K ((ys i).map .str)))) (hl : ∀ i, P i → ((ys i).map (·.length)).sum + (ys i).length * z.length ≤ 16777216) (hs : starEach [e] X.env = [(false, eval e X.env)] := by rfl) (hbase : attributeBase a "join" X.env (eval a X.env) = eval a X.env := by rfl) (hline : (apos.endLine == pos.line) = true := by rfl) :
    PE X (.Call (.Attribute a "join" apos) [e] [] pos) (tT ρ (tyEx P fun i => tyD X.K (.str (Txt.join z (ys i))))) := pe_weak (pe_join ho he hs hbase hline) fun σ H Q q =>
  ⟨q.1, fun v H1 e1 hv => ⟨⟨z, Dp.str_ hv⟩, q.1.mono e1, fun w H2 e2 ⟨i, hi, b, xs, ew, h1, h2⟩ => by
    rw [dpAll_strs h2] at h1
    exact ⟨z, b, ys i, Dp.str_ hv, by rw [ew], .inl (.of h1), hl i hi, q.2 _ H2 (e1.trans e2) ⟨i, hi, .str _⟩⟩⟩⟩
theorem te_setOfX {xs : ι → List Str} (hc : X.calm = true) (hm : X.mg "set" = none) (he : PE X e (tT ρ (tyEx P fun i => tyTL X.K ((xs i).map .str)))) (hl : ∀ i, P i → (xs i).length < 900) (hg : Gl X "set" := by rfl) (hs : starEach [e] X.env = [(false, eval e X.env)] := by rfl) :
    PE X (.Call (.Name "set" p) [e] [] pos) (tT ρ (tyEx P fun i => tyStx X.prog X.w (xs i))) := by
  have cr : CallR X (.type "set") (fun vs H Q => ∃ v, vs = [v] ∧ (tyEx P fun i => tyTL X.K ((xs i).map .str)).p H v ∧ ∀ v' H', Gr H H' → (tyEx P fun i => tyStx X.prog X.w (xs i)).p H' v' → Q v' H') := by
    intro pins s σ H vs us Q I r ⟨v, ev, ⟨i, hi, b, ws, ew, h1, h2⟩, q⟩
    subst ev ew
    obtain ⟨u, rfl, rx⟩ := vals1 r
    obtain rfl : u = Value.ref b := rx
    rw [dpAll_strs h2] at h1
    obtain ⟨its, r', pl, hz⟩ := I.list (.of h1)
    refine stx_list (xs i) (I.ok.hd hc) pl.isList (by simpa using Vals.strs r') (hl i hi) fun h' tk l R hj k => ?_
    exact ⟨.ref s.heap.objs.size, _, I.laid (a := s.heap.objs.size) (o := stxO X.prog X.w s.heap.objs.size l) (t' := tk) k (Nat.le_refl _) (stxO_ok R), rfl, q _ _ (Gr.new (I.hok.fresh (Nat.le_refl _))) ⟨i, hi, _, l, rfl, upd_same, hj⟩⟩
  exact te_t1 cr hm boot_set he (fun v H Q hv k => ⟨v, rfl, hv, k⟩) hg hs
theorem te_sortedXX {xs : ι → List Str} (hc : X.calm = true) (hm : X.mg "sorted" = none) (he : PE X e (tT ρ (tyEx P fun i => tyStx X.prog X.w (xs i)))) (hl : ∀ i, P i → (xs i).length < 64) (hg : Gl X "sorted" := by rfl) (hs : starEach [e] X.env = [(false, eval e X.env)] := by rfl) :
    PE X (.Call (.Name "sorted" p) [e] [] pos) (tT ρ (tyEx P fun i => tyAsc X.K (xs i))) := by
  have cr : CallR X (.builtin "sorted") (fun vs H Q => ∃ v, vs = [v] ∧ (tyEx P fun i => tyStx X.prog X.w (xs i)).p H v ∧ ∀ v' H', Gr H H' → (tyEx P fun i => tyAsc X.K (xs i)).p H' v' → Q v' H') := by
    intro pins s σ H vs us Q I r ⟨v, ev, ⟨i, hi, a, l, ea, hH, hj⟩, q⟩
    subst ev ea
    obtain ⟨u, rfl, rx⟩ := vals1 r
    obtain rfl : u = Value.ref a := rx
    have R : Stx X.prog X.w s.heap a l := (I.hok a _ hH).1
    have ll : l.length ≤ (xs i).length := nodup_le R.nd fun j z => (hj j).mp z
    have h64 := hl i hi
    refine stx_sorted R (I.ok.hd hc) (by omega) fun s' p out c ys k e1 e2 hz hp hS hsrt hm2 hlen => ?_
    have nd : ys.Nodup := nodup_of_le R.nd (fun j z => (hm2 j).mpr z) (Nat.le_of_eq hlen)
    have hn : H p = none := I.hok.fresh hz
    obtain ⟨hh, g, d, t, os⟩ := s'
    obtain rfl : g = s.gens := e1
    obtain rfl : os = s.os := e2
    have I1 : Inv X pins σ (upd H p (.lst (ys.map V.str))) { s with heap := hh, gens := s.gens, drawn := d, toks := t } := I.call (ch := []) (Un.laid k hz hn) (I.hok.laid k hz ⟨by rw [List.length_map, sizeLine_eq]; omega, out.toList, c, vals_of_strs hS, hp⟩) I.bare (fun _ z => nomatch z)
    exact ⟨.ref p, _, I1, rfl, q _ _ (Gr.new hn) ⟨i, hi, ys, ⟨hsrt, fun j => (hm2 j).trans (hj j), nd⟩, p, _, rfl, upd_same, dp_strs ys⟩⟩
  exact te_b1 cr hm boot_sorted he (fun v H Q hv k => ⟨v, rfl, hv, k⟩) hg hs
theorem te_tupleLX {ds : ι → List PyData} (hm : X.mg "tuple" = none) (hr : ∀ i, P i → isRs (ds i) = false) (ha : PE X a (tT ρ (tyEx P fun i => tyTL X.K (ds i)))) (hg : Gl X "tuple" := by rfl) (hs : starEach [a] X.env = [(false, eval a X.env)] := by rfl) : PE X (.Call (.Name "tuple" p) [a] [] pos) (tT ρ (tyEx P fun i => tyD X.K (.tuple (ds i)))) :=
  te_t1 (call_tupleB false) hm PyProof.Rows.boot_tuple ha (fun v H Q ⟨i, hi, q, xs, ev, h1, h2⟩ k => ⟨q, xs, by rw [ev], .of h1, fun l u hu hl => k _ _ (Gr.new hl) ⟨i, hi, Dp.tupP (hr i hi) upd_same (Gr.dpAll (Gr.new hl) _ _ h2)⟩⟩) hg hs
end
end K14
/-! MC: pick, piece, letters. -/
namespace K14
open PySem PySem.Spec PyProof.Rows L2
/-- what is picked from -/
def itemsD : PyData → List PyData
  | .list ds => ds
  | .tuple ds => ds
  | .str z => (sigs z).map .str
  | _ => []
structure PkIx where
  d : PyData
  ne : itemsD d ≠ []
  len : (itemsD d).length < 1000000
def tyIn (K : PySem.W.Frag) (ds : List PyData) : Ty := tyEx (fun d => d ∈ ds) (fun d => tyD K d)
section
variable {X : Cx} {a b : Expr} {ρ : Rho} {pos : Pos} {ds : List PyData}
theorem te_ixTX (ha : PE X a (tT ρ (tyD X.K (.tuple ds)))) (hb : PE X b (tT ρ (tyLt X.K ds.length))) (hs : PlainIx b := by exact fun _ _ => rfl) : PE X (.Subscript a b pos) (tT ρ (tyIn X.K ds)) :=
  te_ix ix_tup ha hb (fun x y H Q hx ⟨r, hr, hy⟩ k => by
    obtain ⟨p, xs, rfl, h1, h2⟩ := Dp.tup_ hx
    obtain ⟨v, g1, g2⟩ := DpAll.get h2 (List.getElem?_eq_getElem hr)
    exact ⟨p, xs, r, v, rfl, Dp.int_ hy, h1.sq, atI_nat (j := r) g1, k _ H (Gr.refl H) ⟨ds[r], List.getElem_mem hr, g2⟩⟩) hs
theorem te_ixLX (ha : PE X a (tT ρ (tyD X.K (.list ds)))) (hb : PE X b (tT ρ (tyLt X.K ds.length))) (hs : PlainIx b := by exact fun _ _ => rfl) : PE X (.Subscript a b pos) (tT ρ (tyIn X.K ds)) :=
  te_ix ix_list ha hb (fun x y H Q hx ⟨r, hr, hy⟩ k => by
    obtain ⟨p, xs, rfl, h1, h2⟩ := Dp.lst_ hx
    obtain ⟨v, g1, g2⟩ := DpAll.get h2 (List.getElem?_eq_getElem hr)
    exact ⟨p, xs, r, v, rfl, Dp.int_ hy, .of h1, atI_nat (j := r) g1, k _ H (Gr.refl H) ⟨ds[r], List.getElem_mem hr, g2⟩⟩) hs
theorem te_ixSX {z : Str} (hz : z.length ≤ 1000000) (ha : PE X a (tT ρ (tyD X.K (.str z)))) (hb : PE X b (tT ρ (tyLt X.K ((sigs z).map PyData.str).length))) (hs : PlainIx b := by exact fun _ _ => rfl) : PE X (.Subscript a b pos) (tT ρ (tyIn X.K ((sigs z).map .str))) :=
  te_ix ix_str ha hb (fun x y H Q hx ⟨r, hr, hy⟩ k => by
    have hr' : r < z.cps.toList.length := by
      rw [List.length_map, sigs_len] at hr
      simpa using hr
    refine ⟨z, r, z.cps.toList[r], Dp.str_ hx, Dp.int_ hy, by rw [sizeLine_eq]; omega, atI_nat (j := r) (List.getElem?_eq_getElem hr'), k _ H (Gr.refl H) ⟨.str (sgn z.cps.toList[r]), List.mem_map.mpr ⟨sgn z.cps.toList[r], List.mem_map.mpr ⟨_, List.getElem_mem hr', rfl⟩, rfl⟩, .str _⟩⟩) hs
end
section
variable {P : Program} {w : World} {K : PySem.W.Frag} {mg : Str → Option Value} {base : Heap} {f : Addr} {fd : FuncData}
abbrev CPick (P : Program) (w : World) (K : PySem.W.Frag) (mg : Str → Option Value) (base : Heap) : Prop := Cal P w K mg base 2 "_law_pick" (fun i : PkIx => [tyFeed, tyD K i.d]) (fun i => tyIn K (itemsD i.d))
theorem sc58 : FnScope ["_law_feed_here", "_law_things"] ["_law_feed_here", "_law_things"] (scopeAt 58) := ⟨rfl, rfl, rfl, by decide +kernel, rfl, by decide +kernel, by decide +kernel⟩
theorem ok_law_pick (F : DefAt K "_law_pick" 58 f fd) (hm : mg "_law_pick" = some (.ref f)) (B : Free mg) (c57 : CDraw P w K mg base) : CPick P w K mg base := by
  refine cal_of F hm sc58 (fun kV doc pm an cdv ct us hl => ?_) (fun _ => rfl) fun i cdv A outer s H E hr => ?_
  · match us, hl with
    | [a, b], _ => rfl
  · obtain ⟨d, ne, len⟩ := i
    have h0 : 0 < (itemsD d).length := List.length_pos_iff.mpr ne
    let ix : DrIx := ⟨(itemsD d).length, h0, len⟩
    refine ts_one (ts_ret ?_)
    cases d with
    | list ds => exact te_ixLX (te_var 1) (te_fn (i := ix) c57 hr (ta_cons (te_var 0) (ta_one (te_len (d := .list ds) B.len (te_var 1) rfl (Nat.le_of_lt len)) rfl)))
    | tuple ds => exact te_ixTX (te_var 1) (te_fn (i := ix) c57 hr (ta_cons (te_var 0) (ta_one (te_len (d := .tuple ds) B.len (te_var 1) rfl (Nat.le_of_lt len)) rfl)))
    | str z =>
      have e : z.length = ((sigs z).map PyData.str).length := by rw [List.length_map, sigs_len]; rfl
      have hz : z.length ≤ 1000000 := by rw [e]; exact Nat.le_of_lt len
      exact te_ixSX hz (te_var 1) (te_fn (i := ix) c57 hr (ta_cons (te_var 0) (ta_one (te_d (te_len (d := .str z) B.len (te_var 1) rfl hz) (by rw [e]; rfl)) rfl)))
    | none => exact absurd rfl ne
    | bool _ => exact absurd rfl ne
    | int _ => exact absurd rfl ne
    | dict _ => exact absurd rfl ne
/-! piece -/
structure PcIx where
  cs : List Nat
  m : Nat
  ne : cs ≠ []
  cl : cs.length ≤ 26
  h0 : 0 < m
  h1 : m ≤ 10
/-- a drawn piece of these letters -/
structure PcOk (cs : List Nat) (m : Nat) (z : Str) : Prop where
  of : ∀ c ∈ z.cps.toList, c ∈ cs
  ne : z ≠ ""
  len : z.length ≤ m
def tyPc (K : PySem.W.Frag) (cs : List Nat) (m : Nat) : Ty := tyEx (PcOk cs m) (fun z => tyD K (.str z))
abbrev CPiece (P : Program) (w : World) (K : PySem.W.Frag) (mg : Str → Option Value) (base : Heap) : Prop := Cal P w K mg base 3 "_law_piece" (fun i : PcIx => [tyFeed, tyD K (letD i.cs), tyD K (.int (i.m : Nat))]) (fun i => tyPc K i.cs i.m)
theorem join_list (xs : List Str) : (Txt.join "" xs).cps.toList = xs.flatMap fun x => x.cps.toList := by
  show (Builtin.Str.glued "" xs).cps.toList = _
  rw [StrLaws.glued_eq_join]
  induction xs with
  | nil => rfl
  | cons x xs ih =>
    cases xs with
    | nil =>
      show x.cps.toList = List.flatMap _ [x]
      simp
    | cons y ys =>
      show (x.cps ++ (Str.cps "") ++ (Str.join "" (y :: ys)).cps).toList = _
      rw [Array.toList_append, Array.toList_append, ih, List.flatMap_cons]
      show x.cps.toList ++ [] ++ _ = _
      rw [List.append_nil]
      rfl
theorem flat_signs : ∀ cs : List Nat, ((cs.map sgn).flatMap fun x : Str => x.cps.toList) = cs
  | [] => rfl
  | c :: cs => by
    rw [List.map_cons, List.flatMap_cons, flat_signs cs]
    rfl
theorem join_signs (cs : List Nat) : (Txt.join "" (cs.map sgn)).cps.toList = cs := by rw [join_list, flat_signs]
theorem tyIn_strs {K : PySem.W.Frag} {xs : List Str} : (tyIn K (xs.map .str)).le (tyEx (fun z => z ∈ xs) fun z => tyD K (.str z)) := fun H v ⟨d, hd, hv⟩ => by
  obtain ⟨z, hz, rfl⟩ := List.mem_map.mp hd
  exact ⟨z, hz, hv⟩
theorem signs_of {xs : List Str} {p : Nat → Prop} (h : ∀ x ∈ xs, ∃ c, p c ∧ x = sgn c) : ∃ cs : List Nat, xs = cs.map sgn ∧ cs.length = xs.length ∧ ∀ c ∈ cs, p c := by
  induction xs with
  | nil => exact ⟨[], rfl, rfl, fun c hc => nomatch hc⟩
  | cons x xs ih =>
    obtain ⟨cs, e1, e2, e3⟩ := ih fun y hy => h y (List.mem_cons_of_mem _ hy)
    obtain ⟨c, hc, e⟩ := h x List.mem_cons_self
    refine ⟨c :: cs, by rw [e, e1]; rfl, congrArg (· + 1) e2, fun d hd => ?_⟩
    rcases List.mem_cons.mp hd with z | z
    · exact z ▸ hc
    · exact e3 d z
theorem strs_in {xs : List PyData} {zs : List Str} (p : ∀ x ∈ xs, x ∈ zs.map PyData.str) : ∃ ys : List Str, xs = ys.map .str ∧ ∀ y ∈ ys, y ∈ zs := by
  induction xs with
  | nil => exact ⟨[], rfl, fun y hy => nomatch hy⟩
  | cons x xs ih =>
    obtain ⟨ys, e, h⟩ := ih fun y hy => p y (List.mem_cons_of_mem _ hy)
    obtain ⟨y, hy, e'⟩ := List.mem_map.mp (p x List.mem_cons_self)
    refine ⟨y :: ys, by rw [← e', e]; rfl, fun q hq => ?_⟩
    rcases List.mem_cons.mp hq with z | z
    · exact z ▸ hy
    · exact h q z
theorem sum_signs : ∀ {xs : List Str}, (∀ x ∈ xs, ∃ c, x = sgn c) → (xs.map (·.length)).sum = xs.length
  | [], _ => rfl
  | x :: xs, h => by
    obtain ⟨c, e⟩ := h x List.mem_cons_self
    rw [List.map_cons, List.sum_cons, sum_signs fun y hy => h y (List.mem_cons_of_mem _ hy), e, List.length_cons]
    show 1 + _ = _
    omega
theorem sc60 : FnScope ["_law_feed_here", "_law_signs", "_law_most", "_law_lap"] ["_law_feed_here", "_law_signs", "_law_most"] (scopeAt 60) := ⟨rfl, rfl, rfl, by decide +kernel, rfl, by decide +kernel, by decide +kernel⟩
abbrev pcN : List Str := ["_law_feed_here", "_law_signs", "_law_most", "_law_lap"]
theorem ok_law_piece (F : DefAt K "_law_piece" 60 f fd) (hm : mg "_law_piece" = some (.ref f)) (B : Free mg) (c57 : CDraw P w K mg base) (c58 : CPick P w K mg base) : CPiece P w K mg base := by
  refine cal_of F hm sc60 (fun kV doc pm an cdv ct us hl => ?_) (fun _ => rfl) fun i cdv A outer s H E hr => ?_
  · match us, hl with
    | [a, b, c], _ => rfl
  · obtain ⟨cs, m, ne, cl, h0, h1⟩ := i
    have hlen : itemsD (letD cs) = (cs.map sgn).map .str := rfl
    let got := fun z : Nat => tyGot K (1 + z) (fun x : Str => x ∈ cs.map sgn) PyData.str
    refine ts_one (ts_ret (te_le (te_joinX (P := fun xs : List Str => (1 ≤ xs.length ∧ xs.length ≤ m) ∧ ∀ x ∈ xs, ∃ c, c ∈ cs ∧ x = sgn c) (ys := fun xs => xs) te_str (te_le (te_lcX (P := fun z : Nat => z < m) (n := fun z => ((1 : Int) + (z : Nat)).toNat) (item := fun _ i => tyD K (.int (i : Nat))) (p := fun _ _ => true) (el := fun _ _ => tyIn K (itemsD (letD cs))) (nxt := fun _ _ => _) [("_law_lap", 3)] rfl sc60.nd ?_ ?_ (blkOk_by (N := pcN) (sc := scopeAt 60) (by decide +kernel)) fun z hz => lcok (fun j hj s' H' C cl fp => tg_name 3 sc60.nd (by decide)) (fun j hj s' H' C cl' fp => ?_)) ?_) ?_) ?_))
    · exact ti_rangeX (m := fun z : Nat => (1 : Int) + (z : Nat)) B.range (te_op op_add (te_int (i := 1)) (te_fn (i := DrIx.mk m h0 (by omega)) c57 (hr.mono (by decide)) (ta_cons (te_var 0) (ta_one (te_var 2) rfl))) fun x y H Q hx ⟨r, hr', hy⟩ k => ⟨1, r, Dp.int_ hx, Dp.int_ hy, k _ H (Gr.refl H) ⟨r, hr', .int _⟩⟩) fun z hz => ⟨by omega, by omega⟩
    · intro z hz
      show ((1 : Int) + (z : Nat)).toNat ≤ 1000000
      omega
    · exact te_fn (i := PkIx.mk (letD cs) (by rw [hlen]; simpa using ne) (by rw [hlen, List.length_map, List.length_map]; omega)) c58 hr (ta_cons (te_var 0) (ta_one (te_var 1) rfl))
    · refine tyEx_out fun z hz => ?_
      intro H v hv
      have hv' : (tyL (took ((1 : Int) + (z : Nat)).toNat (fun _ => true) fun _ => tyEx (fun d : PyData => d ∈ itemsD (letD cs)) fun d => tyD K (id d))).p H v := hv
      obtain ⟨xs, ⟨l, p⟩, a, vs, e1, e2, e3⟩ := tyL_got H v hv'
      rw [List.map_id] at e3
      obtain ⟨ys, ey, hy⟩ := strs_in p
      subst ey
      rw [List.length_map] at l
      refine ⟨ys, ⟨⟨by omega, by omega⟩, fun x hx => ?_⟩, a, vs, e1, e2, e3⟩
      obtain ⟨c, hc, e⟩ := List.mem_map.mp (hy x hx)
      exact ⟨c, hc, e.symm⟩
    · intro xs hx
      rw [sum_signs fun x hx' => by obtain ⟨c, _, e⟩ := hx.2 x hx'; exact ⟨c, e⟩]
      show xs.length + xs.length * 0 ≤ _
      omega
    · refine tyEx_map (fun xs => Txt.join "" xs) (fun xs hx => ?_) fun xs hx => Ty.le.rfl
      obtain ⟨ds, e1, e2, e3⟩ := signs_of (p := fun c => c ∈ cs) hx.2
      subst e1
      have ej := join_signs ds
      refine ⟨fun c hc => e3 c (by rw [ej] at hc; exact hc), fun z => ?_, ?_⟩
      · have : (Txt.join "" (ds.map sgn)).cps.toList = [] := by rw [z]; rfl
        rw [ej] at this
        rw [this] at hx
        exact absurd hx.1.1 (by decide)
      · show (Txt.join "" (ds.map sgn)).cps.size ≤ m
        rw [← Array.length_toList, ej, e2]
        exact hx.1.2
/-! letters -/
def menuS : List Str := ["abc", "ab", "a", "pq", "amz", "wxyz", abc]
theorem menu_ok : ∀ z ∈ menuS, (z.cps.toList ≠ [] ∧ z.cps.toList.Pairwise (· < ·) ∧ (∀ c ∈ z.cps.toList, c ∈ abc.cps.toList)) ∧ z.cps.toList.length ≤ 26 := by decide +kernel
def tyLets (K : PySem.W.Frag) : Ty := tyEx LetOk (fun cs => tyD K (letD cs))
abbrev CLaw59 (P : Program) (w : World) (K : PySem.W.Frag) (mg : Str → Option Value) (base : Heap) : Prop := Cal P w K mg base 3 "_law_letters" (fun _ : Unit => [tyFeed]) (fun _ => tyLets K)
abbrev ltN : List Str := ["_law_feed_here", "_law_signs", "_law_lap"]
theorem sc59 : FnScope ltN ["_law_feed_here"] (scopeAt 59) := ⟨rfl, rfl, rfl, by decide +kernel, rfl, by decide +kernel, by decide +kernel⟩
theorem tt_eqU {X : Cx} {ρ : Rho} {a b : Expr} {pos : Pos} {p q : Int → Prop} (ha : PE X a (tT ρ (tyI p))) (hb : PE X b (tT ρ (tyI q))) : PT X (.Compare a [.Eq] [b] pos) (tTU ρ) :=
  pt_weak (pt_cmpR op_eq ha hb (nomark _)) fun σ H Q k => ⟨k.1, fun x H1 e1 hx => ⟨k.1.mono e1, fun y H2 e2 hy => by
    obtain ⟨i, rfl, _⟩ := hx
    obtain ⟨j, rfl, _⟩ := hy
    exact ⟨rfl, _, rfl, k.2 _ H2 (e1.trans e2)⟩⟩⟩
theorem lt_I {K : PySem.W.Frag} {m : Nat} : (tyLt K m).le (tyI anyI) := fun H v ⟨r, _, hv⟩ => ⟨r, Dp.int_ hv, True.intro⟩
theorem ok_law_letters (F : DefAt K "_law_letters" 59 f fd) (hm : mg "_law_letters" = some (.ref f)) (B : Free mg) (c57 : CDraw P w K mg base) (c58 : CPick P w K mg base) : CLaw59 P w K mg base := by
  refine cal_of F hm sc59 (fun kV doc pm an cdv ct us hl => ?_) (fun _ => rfl) fun i cdv A outer s H E hr => ?_
  · match us, hl with
    | [a], _ => rfl
  · refine ts_cons (ts_set 1 (te_str (i := abc)) ?_ sc59.nd (hx := Or.inr rfl))
    refine ts_cons (ts_ifU (tt_eqU (te_le (te_fn (i := DrIx.mk 3 (by decide) (by decide)) c57 (hr.mono (by decide)) (ta_cons (te_var 0) (ta_one te_int rfl))) lt_I) (te_cI (p := anyI) True.intro)) ?_ (ts_nil ?_))
    · refine ts_one (ts_ret (te_le (te_tupSX (P := fun z => z ∈ menuS) (z := id) rfl B.tuple (te_le (te_fn (i := PkIx.mk (.list (menuS.map .str)) (by decide) (by decide)) c58 hr (ta_cons (te_var 0) (ta_one (te_le (te_lst (ds := menuS.map .str) (ta_cons te_str (ta_cons te_str (ta_cons te_str (ta_cons te_str (ta_cons te_str (ta_cons te_str (ta_one (te_var 1) rfl)))))))) tyTL_le) rfl))) tyIn_strs) ?_) ?_))
      · intro z hz
        have := (menu_ok z hz).2
        rw [Array.length_toList] at this
        exact Nat.le_trans this (by decide)
      · refine tyEx_map (fun z => z.cps.toList) (fun z hz => ?_) fun z hz => Ty.le.rfl
        obtain ⟨⟨a, b, c⟩, d⟩ := menu_ok z hz
        exact ⟨a, b, c, d⟩
    · refine ts_one (ts_ret (te_le (te_tupleLX (P := fun ys : List Str => ∃ xs : List Str, ((1 ≤ xs.length ∧ xs.length ≤ 4) ∧ ∀ x ∈ xs, ∃ c, c ∈ abc.cps.toList ∧ x = sgn c) ∧ sortedS ys = true ∧ (∀ j, j ∈ ys ↔ j ∈ xs) ∧ ys.Nodup) (ds := fun ys => ys.map .str) B.tuple (fun ys _ => isRs_strs ys) (te_le (te_sortedXX (P := fun xs : List Str => (1 ≤ xs.length ∧ xs.length ≤ 4) ∧ ∀ x ∈ xs, ∃ c, c ∈ abc.cps.toList ∧ x = sgn c) (xs := id) rfl B.sorted (te_setOfX (xs := id) rfl B.set (te_le (te_lcX (P := fun z : Nat => z < 4) (n := fun z => ((1 : Int) + (z : Nat)).toNat) (item := fun _ i => tyD K (.int (i : Nat))) (p := fun _ _ => true) (el := fun _ _ => tyIn K (itemsD (.str abc))) (nxt := fun _ _ => _) [("_law_lap", 2)] rfl sc59.nd ?_ ?_ (blkOk_by (N := ltN) (sc := scopeAt 59) (by decide +kernel)) fun z hz => lcok (fun j hj s' H' C cl fp => tg_name 2 sc59.nd (by decide)) (fun j hj s' H' C cl' fp => ?_)) ?_) ?_) ?_) ?_)) ?_))
      · exact ti_rangeX (m := fun z : Nat => (1 : Int) + (z : Nat)) B.range (te_op op_add (te_int (i := 1)) (te_fn (i := DrIx.mk 4 (by decide) (by decide)) c57 (hr.mono (by decide)) (ta_cons (te_var 0) (ta_one te_int rfl))) fun x y H Q hx ⟨r, hr', hy⟩ k => ⟨1, r, Dp.int_ hx, Dp.int_ hy, k _ H (Gr.refl H) ⟨r, hr', .int _⟩⟩) fun z hz => ⟨by omega, by omega⟩
      · intro z hz
        show ((1 : Int) + (z : Nat)).toNat ≤ 1000000
        omega
      · exact te_fn (i := PkIx.mk (.str abc) (by decide +kernel) (by decide +kernel)) c58 hr (ta_cons (te_var 0) (ta_one (te_var 1) rfl))
      · refine tyEx_out fun z hz => ?_
        intro H v hv
        have hv' : (tyL (took ((1 : Int) + (z : Nat)).toNat (fun _ => true) fun _ => tyEx (fun d : PyData => d ∈ itemsD (.str abc)) fun d => tyD K (id d))).p H v := hv
        obtain ⟨xs, ⟨l, p⟩, a, vs, e1, e2, e3⟩ := tyL_got H v hv'
        rw [List.map_id] at e3
        obtain ⟨ys, ey, hy⟩ := strs_in p
        subst ey
        rw [List.length_map] at l
        refine ⟨ys, ⟨⟨by omega, by omega⟩, fun x hx => ?_⟩, a, vs, e1, e2, e3⟩
        obtain ⟨c, hc, e⟩ := List.mem_map.mp (hy x hx)
        exact ⟨c, hc, e.symm⟩
      · intro xs hx
        exact Nat.lt_of_le_of_lt hx.1.2 (by decide)
      · intro xs hx
        exact Nat.lt_of_le_of_lt hx.1.2 (by decide)
      · intro H v ⟨xs, hx, ys, hy, hv⟩
        exact ⟨ys, ⟨xs, hx, hy⟩, hv⟩
      · intro H v ⟨ys, ⟨xs, hx, h1, h2, h3⟩, hv⟩
        obtain ⟨cs, e1, e2⟩ := asc_signs h1 h3 fun z hz => by
          obtain ⟨c, _, e⟩ := hx.2 z ((h2 z).mp hz)
          exact ⟨c, e⟩
        subst e1
        have hlow : ∀ c ∈ cs, c ∈ abc.cps.toList := fun c hc => by
          obtain ⟨d, hd, e⟩ := hx.2 _ ((h2 (sgn c)).mp (List.mem_map.mpr ⟨c, hc, rfl⟩))
          exact sgn_inj e ▸ hd
        refine ⟨cs, ⟨fun z => ?_, e2, hlow, ?_⟩, hv⟩
        · subst z
          match xs, hx, h2 with
          | x :: xs, hx, h2 => exact nomatch (h2 x).mpr List.mem_cons_self
        · have nd : cs.Nodup := e2.imp fun h => Nat.ne_of_lt h
          exact Nat.le_trans (nodup_le nd hlow) (by decide +kernel)
end
end K14
/-! MD: same. -/
namespace K14
open PySem PySem.Spec PyProof.Rows L2
/-- data of this depth that are compared by walking -/
def Smp : Nat → PyData → Prop
  | _, .none => True
  | _, .bool _ => True
  | _, .int _ => True
  | _, .str _ => True
  | n + 1, .tuple ds => ds.length ≤ 1000 ∧ ∀ d ∈ ds, Smp n d
  | _, _ => False
theorem Smp.str {n : Nat} {z : Str} : Smp n (.str z) := by cases n <;> exact True.intro
theorem Smp.int {n : Nat} {z : Int} : Smp n (.int z) := by cases n <;> exact True.intro
theorem Smp.strs {n : Nat} {xs : List Str} (h : xs.length ≤ 1000) : Smp (n + 1) (strsD xs) := ⟨by rw [List.length_map]; exact h, fun d hd => by
  obtain ⟨z, _, e⟩ := List.mem_map.mp hd
  exact e ▸ Smp.str⟩
theorem Smp.rules {n : Nat} {rs : List Rule} (h : rs.length ≤ 1000) : Smp (n + 2) (rulesD rs) := ⟨by rw [List.length_map]; exact h, fun d hd => by
  obtain ⟨p, _, e⟩ := List.mem_map.mp hd
  subst e
  refine ⟨by show 2 ≤ 1000; decide, fun d hd => ?_⟩
  rcases List.mem_cons.mp hd with e | hd
  · exact e ▸ Smp.str
  rcases List.mem_cons.mp hd with e | hd
  · exact e ▸ Smp.str
  · cases hd⟩
theorem Smp.tb {n : Nat} {T : Tb} (O : TbOk T) : Smp (n + 3) (tbD T) := ⟨by show 3 ≤ 1000; decide, fun d hd => by
  rcases List.mem_cons.mp hd with e | hd
  · subst e
    exact Smp.strs (by rw [List.length_map]; exact Nat.le_trans O.ls.len (by decide))
  rcases List.mem_cons.mp hd with e | hd
  · exact e ▸ Smp.rules O.len
  rcases List.mem_cons.mp hd with e | hd
  · exact e ▸ Smp.str
  · cases hd⟩
theorem Smp.two {n : Nat} {a b : PyData} (h1 : Smp n a) (h2 : Smp n b) : Smp (n + 1) (.tuple [a, b]) := ⟨by show 2 ≤ 1000; decide, fun d hd => by
  rcases List.mem_cons.mp hd with e | hd
  · exact e ▸ h1
  rcases List.mem_cons.mp hd with e | hd
  · exact e ▸ h2
  · cases hd⟩
theorem Smp.ref : Smp 1 refD := ⟨by show 3 ≤ 1000; decide, fun d hd => by
  rcases List.mem_cons.mp hd with e | hd
  · exact e ▸ Smp.str
  rcases List.mem_cons.mp hd with e | hd
  · exact e ▸ Smp.str
  rcases List.mem_cons.mp hd with e | hd
  · exact e ▸ Smp.int
  · cases hd⟩
theorem took_none {α : Type} (n : Nat) (el : Nat → α) : took n (fun _ => false) el = [] := by
  unfold took
  have : (List.range n).filter (fun _ => false) = [] := List.filter_eq_nil_iff.mpr fun _ _ h => nomatch h
  rw [this]
  rfl
section
variable {P : Program} {w : World} {K : PySem.W.Frag} {mg : Str → Option Value} {base : Heap} {f : Addr} {fd : FuncData}
abbrev CSame (P : Program) (w : World) (K : PySem.W.Frag) (mg : Str → Option Value) (base : Heap) (n : Nat) : Prop := Cal P w K mg base (n + 1) "_law_same" (fun i : { d : PyData // Smp n d } => [tyD K i.1, tyD K i.1]) (fun _ => tyD K (.bool true))
abbrev smN : List Str := ["_law_told", "_law_due", "_law_k"]
theorem sc62 : FnScope smN ["_law_told", "_law_due"] (scopeAt 62) := ⟨rfl, rfl, rfl, by decide +kernel, rfl, by decide +kernel, by decide +kernel⟩
theorem same_step (F : DefAt K "_law_same" 62 f fd) (hm : mg "_law_same" = some (.ref f)) (B : Free mg) (n : Nat) (c : ∀ m, n = m + 1 → CSame P w K mg base m) : CSame P w K mg base n := by
  refine cal_of F hm sc62 (fun kV doc pm an cdv ct us hl => ?_) (fun _ => rfl) fun i cdv A outer s H E hr => ?_
  · match us, hl with
    | [a, b], _ => rfl
  · obtain ⟨d, S⟩ := i
    have hu := units65 hr
    cases d with
    | list ds => cases n <;> exact S.elim
    | dict ds => cases n <;> exact S.elim
    | tuple ds =>
      cases n with
      | zero => exact S.elim
      | succ n =>
        have c := c n rfl
        have hl : ds.length ≤ 1000000 := Nat.le_trans S.1 (by decide)
        refine ts_cons (ts_if (k := true) (tt_val (te_isi B.isinstance (te_var 1 (T := tyD K (.tuple ds))) B.tuple PyProof.Rows.boot_tuple rfl)) (fun _ => ?_) fun h => nomatch h)
        refine ts_cons (ts_if (k := false) (PW.pt (tw_or (c := false) (d := false) (tt_not (c := true) (tt_val (te_isi B.isinstance (te_var 0 (T := tyD K (.tuple ds))) B.tuple PyProof.Rows.boot_tuple rfl))) fun _ => tw_or1 (tt_is (tt_neI (te_len (d := .tuple ds) (n := ds.length) B.len (te_var 0) rfl hl) (te_len (d := .tuple ds) (n := ds.length) B.len (te_var 1) rfl hl)) (by rw [decide_eq_true rfl]; rfl)))) (fun h => nomatch h) fun _ => ts_nil ?_)
        refine ts_one (ts_ret (te_b (te_eqD (d := .list []) (d' := .list []) (Nat.lt_of_succ_lt hu) (te_lcL (n := ds.length) (item := fun i => tyD K (.int (i : Nat))) (p := fun _ => false) (el := fun _ => .none) (nxt := fun _ => _) [("_law_k", 2)] rfl sc62.nd ?_ hl (blkOk_by (N := smN) (sc := scopeAt 62) (by decide +kernel)) (lcokIf (fun j hj s' H' C cl fp => tg_name 2 sc62.nd (by decide)) (fun j hj s' H' C cl' fp => ?_) fun j hj hb s' H' C cl fp => nomatch hb) (took_none _ _)) (te_le (te_lst (ds := []) ta_nil) tyTL_le) rfl rfl) rfl))
        · exact ti_range (m := (ds.length : Int)) B.range (te_len (d := .tuple ds) (n := ds.length) B.len (te_var 1) rfl hl) ⟨by omega, by omega⟩
        · have hj' : j < ds.length := hj
          refine tt_not (c := true) (tt_fn (i := ⟨ds[j], S.2 _ (List.getElem_mem hj')⟩) c hr rfl (ta_cons (te_ixT (te_var 0) (te_var 2) (atI_nat (j := j) (List.getElem?_eq_getElem hj'))) (ta_one (te_ixT (te_var 1) (te_var 2) (atI_nat (j := j) (List.getElem?_eq_getElem hj'))) rfl)))
    | none =>
      refine ts_cons (ts_if (k := false) (tt_val (te_isi B.isinstance (te_var 1 (T := tyD K .none)) B.tuple PyProof.Rows.boot_tuple rfl)) (fun h => nomatch h) fun _ => ts_nil ?_)
      exact ts_cons (ts_if (k := true) (tt_isN (d := .none) (te_var 1)) (fun _ => ts_one (ts_ret (te_isN (d := .none) (te_var 0)))) fun h => nomatch h)
    | bool b =>
      refine ts_cons (ts_if (k := false) (tt_val (te_isi B.isinstance (te_var 1 (T := tyD K (.bool b))) B.tuple PyProof.Rows.boot_tuple rfl)) (fun h => nomatch h) fun _ => ts_nil ?_)
      refine ts_cons (ts_if (k := false) (tt_isN (d := .bool b) (te_var 1)) (fun h => nomatch h) fun _ => ts_nil ?_)
      exact ts_cons (ts_if (k := true) (tt_val (te_isi B.isinstance (te_var 1 (T := tyD K (.bool b))) B.bool PyProof.Rows.boot_bool rfl)) (fun _ => ts_one (ts_ret (te_and (c := true) (d := true) (te_isi B.isinstance (te_var 0 (T := tyD K (.bool b))) B.bool PyProof.Rows.boot_bool rfl) fun _ => te_one (te_b (te_eqB (te_var 0) (te_var 1)) (decide_eq_true rfl))))) fun h => nomatch h)
    | str z =>
      refine ts_cons (ts_if (k := false) (tt_val (te_isi B.isinstance (te_var 1 (T := tyD K (.str z))) B.tuple PyProof.Rows.boot_tuple rfl)) (fun h => nomatch h) fun _ => ts_nil ?_)
      refine ts_cons (ts_if (k := false) (tt_isN (d := .str z) (te_var 1)) (fun h => nomatch h) fun _ => ts_nil ?_)
      refine ts_cons (ts_if (k := false) (tt_val (te_isi B.isinstance (te_var 1 (T := tyD K (.str z))) B.bool PyProof.Rows.boot_bool rfl)) (fun h => nomatch h) fun _ => ts_nil ?_)
      exact ts_cons (ts_if (k := true) (tt_val (te_isi B.isinstance (te_var 1 (T := tyD K (.str z))) B.str PyProof.Rows.boot_str rfl)) (fun _ => ts_one (ts_ret (te_and (c := true) (d := true) (te_isi B.isinstance (te_var 0 (T := tyD K (.str z))) B.str PyProof.Rows.boot_str rfl) fun _ => te_one (te_b (te_eqS (te_var 0) (te_var 1)) (decide_eq_true rfl))))) fun h => nomatch h)
    | int z =>
      refine ts_cons (ts_if (k := false) (tt_val (te_isi B.isinstance (te_var 1 (T := tyD K (.int z))) B.tuple PyProof.Rows.boot_tuple rfl)) (fun h => nomatch h) fun _ => ts_nil ?_)
      refine ts_cons (ts_if (k := false) (tt_isN (d := .int z) (te_var 1)) (fun h => nomatch h) fun _ => ts_nil ?_)
      refine ts_cons (ts_if (k := false) (tt_val (te_isi B.isinstance (te_var 1 (T := tyD K (.int z))) B.bool PyProof.Rows.boot_bool rfl)) (fun h => nomatch h) fun _ => ts_nil ?_)
      refine ts_cons (ts_if (k := false) (tt_val (te_isi B.isinstance (te_var 1 (T := tyD K (.int z))) B.str PyProof.Rows.boot_str rfl)) (fun h => nomatch h) fun _ => ts_nil ?_)
      exact ts_one (ts_ret (te_and (c := true) (d := true) (te_isi B.isinstance (te_var 0 (T := tyD K (.int z))) B.int PyProof.Rows.boot_int rfl) fun _ => te_and (c := true) (d := true) (te_not (c := false) (te_isi B.isinstance (te_var 0 (T := tyD K (.int z))) B.bool PyProof.Rows.boot_bool rfl)) fun _ => te_one (te_b (te_eqI (te_var 0) (te_var 1)) (decide_eq_true rfl))))
theorem ok_law_same (F : DefAt K "_law_same" 62 f fd) (hm : mg "_law_same" = some (.ref f)) (B : Free mg) : ∀ n, CSame P w K mg base n
  | 0 => same_step F hm B 0 fun m e => nomatch e
  | n + 1 => same_step F hm B (n + 1) fun m e => by
    obtain rfl : n = m := Nat.succ.inj e
    exact ok_law_same F hm B n
end
end K14
/-! ME: next. -/
namespace K14
open PySem PySem.Spec PyProof.Rows L2
section
variable {X : Cx} {ρ : Rho} {o e : Expr} {apos cpos : Pos} {ds : List PyData} {d : PyData} {j : Nat}
/-- l.index(x) -/
theorem te_indexD (hu : X.A.units + 65 < cLine) (ho : PE X o (tT ρ (tyD X.K (.list ds)))) (he : PE X e (tT ρ (tyD X.K d))) (sl : SeqAt.shaped (.list ds) = true) (sd : SeqAt.shaped d = true) {z : PyData} (hz : ds[j]? = some z) (he1 : PyData.eqv z d = true) (hno : ∀ m z', m < j → ds[m]? = some z' → PyData.eqv z' d = false)
    (hbase : attributeBase o "index" X.env (eval o X.env) = eval o X.env := by rfl)
    (hfew : ((backTo cpos (starEach [e] X.env)).all (fun x => !x.1) && (backToKw cpos (keywordEach [] X.env)).all (fun x => x.1.isSome) && decide ([e].length + ([] : List Keyword).length + (if ([] : List Keyword).isEmpty then 0 else 1) < 30)) = true := by rfl)
    (hline : (apos.endLine == cpos.line) = true := by rfl) (hs : starEach [e] X.env = (false, eval e X.env) :: starEach [] X.env := by rfl) : PE X (.Call (.Attribute o "index" apos) [e] [] cpos) (tT ρ (dI X j)) :=
  pe_weak (pe_bm PySem.F.plainAttrs_list PySem.F.slot_list_index PySem.F.type_list_index (mt_indexD hu) ho (ta_one he hs) hbase hfew hline hs rfl) fun σ H Q q => ⟨q.1, fun v H1 e1 hv => by
    obtain ⟨a, xs, rfl, h1, h2⟩ := Dp.lst_ hv
    refine ⟨.inl ⟨rfl, xs, .of h1⟩, q.1.mono e1, fun vs H2 e2 hvs => ?_⟩
    match vs, hvs with
    | [y], hvs => exact ⟨a, y, d, ds, j, z, rfl, rfl, Dp.lib (Gr.dp e2 _ _ hv), Dp.lib hvs.1, sl, sd, hz, he1, hno, q.2 _ H2 (e1.trans e2) (.int _)⟩⟩
end
def kD : Option (Nat × Nat) → PyData
  | none => .none
  | some q => .int (q.2 : Nat)
def stepN (m : Str) (rs : List Rule) (row : List Str) (b : Option (Nat × Nat)) (k : Nat) : Option (Nat × Nat) :=
  match rankOf rs (pairAt row k) with
  | none => b
  | some o => match b with
    | none => some (o, k)
    | some q => if m = "rightmost" ∨ ((m = "ranked" ∨ m = "rightranked") ∧ (o < q.1 ∨ (o = q.1 ∧ m = "rightranked"))) then some (o, k) else b
def lawNext (m : Str) (rs : List Rule) (row : List Str) : Option (Nat × Nat) := (List.range (row.length - 1)).foldl (stepN m rs row) none
structure NxIx where
  row : List Str
  rs : List Rule
  m : Str
  nd : rs.Nodup
  len : rs.length ≤ 1000
  low : ∀ q ∈ rs, Low q.1 ∧ Low q.2
  rl : row.length ≤ 1000
  rlow : ∀ x ∈ row, Low x
  hm : m ∈ manners
theorem rankOf_at : ∀ {rs : List Rule} {p : Rule} {o : Nat}, rankOf rs p = some o → rs[o]? = some p ∧ ∀ m, m < o → rs[m]? ≠ some p
  | [], _, _, h => by cases h
  | q :: rs, p, o, h => by
    unfold rankOf at h
    by_cases e : q = p
    · rw [if_pos e] at h
      obtain rfl := Option.some.inj h
      exact ⟨by rw [e]; rfl, fun m hm => absurd hm (Nat.not_lt_zero _)⟩
    · rw [if_neg e] at h
      cases hr : rankOf rs p with
      | none => rw [hr] at h; cases h
      | some o' =>
        rw [hr] at h
        obtain rfl := Option.some.inj h
        obtain ⟨h1, h2⟩ := rankOf_at hr
        refine ⟨h1, fun m hm => ?_⟩
        cases m with
        | zero => exact fun z => e (Option.some.inj z)
        | succ m => exact h2 m (Nat.lt_of_succ_lt_succ (show m + 1 < o' + 1 from hm))
section
variable {P : Program} {w : World} {K : PySem.W.Frag} {mg : Str → Option Value} {base : Heap} {f : Addr} {fd : FuncData}
abbrev CNx (P : Program) (w : World) (K : PySem.W.Frag) (mg : Str → Option Value) (base : Heap) : Prop := Cal P w K mg base 1 "_law_next" (fun i : NxIx => [tyD K (.list (i.row.map .str)), tyD K (.list (i.rs.map pairD)), tyD K (.str i.m)]) (fun i => tyD K (kD (lawNext i.m i.rs i.row)))
abbrev nxN : List Str := ["_law_row", "_law_pairs", "_law_choice", "_law_best", "_law_k", "_law_order", "_law_least"]
theorem sc64 : FnScope nxN ["_law_row", "_law_pairs", "_law_choice"] (scopeAt 64) := ⟨rfl, rfl, rfl, by decide +kernel, rfl, by decide +kernel, by decide +kernel⟩
theorem ok_law_next (F : DefAt K "_law_next" 64 f fd) (hm : mg "_law_next" = some (.ref f)) (B : Free mg) : CNx P w K mg base := by
  refine cal_of F hm sc64 (fun kV doc pm an cdv ct us hl => ?_) (fun _ => rfl) fun i cdv A outer s H E hr => ?_
  · match us, hl with
    | [a, b, c], _ => rfl
  · obtain ⟨row, rs, m, nd, len, low, rl, rlow, hmm⟩ := i
    have hu := units65 hr
    have hlen : lenD (.list (row.map PyData.str)) = some row.length := congrArg some (List.length_map ..)
    have n1 : (((row.length : Nat) : Int) - 1).toNat = row.length - 1 := by omega
    let n := row.length - 1
    let rho := fun (b : Option (Nat × Nat)) (x y z : Option Ty) => ([some (tyD K (.list (row.map .str))), some (tyD K (.list (rs.map pairD))), some (tyD K (.str m)), some (tyD K (bestD b)), x, y, z] : Rho)
    let bst := fun (j : Nat) => ((List.range n).take j).foldl (stepN m rs row) none
    refine ts_cons (ts_set 3 te_non ?_ sc64.nd)
    refine ts_cons (ts_for (n := n) (item := fun j => tyD K (.int (j : Nat))) (vs := [4]) (fun j ρ' => ∃ x y z, ρ' = rho (bst j) x y z) (fun j ρ' => ρ'.set 4 (some (tyD K (.int (j : Nat)))))
      PassesOwn.never rfl ?_ ⟨_, _, _, rfl⟩ (fun ρ' ⟨x, y, z, e⟩ => ?_) (fun j ρ' hj _ => tg_name 4 sc64.nd (by decide)) fun j ρ' hj ⟨x, y, z, e⟩ => ?_)
    · refine pi_congr (ti_range (m := ((row.length : Nat) : Int) - 1) B.range (te_subI (te_len (d := .list (row.map PyData.str)) B.len (te_var 0) hlen (Nat.le_trans rl (by decide))) te_int) ⟨by omega, by omega⟩) n1 fun _ _ => rfl
    · subst e
      have e2 : bst n = lawNext m rs row := by
        show ((List.range n).take n).foldl _ _ = _
        rw [List.take_of_length_le (by rw [List.length_range]; exact Nat.le_refl _)]
        rfl
      refine ts_one (ts_ret (T := tyD K (kD (lawNext m rs row))) ?_)
      rw [← e2]
      cases bst n with
      | none => exact te_ite (c := true) (tt_isN (d := .none) (te_var 3)) (fun _ => te_non) fun h => nomatch h
      | some q => exact te_ite (c := false) (tt_isN (d := placeD q) (te_var 3)) (fun h => nomatch h) fun _ => te_ixT (te_var 3 (T := tyD K (placeD q))) te_int rfl
    · subst e
      have hjr : j + 1 < row.length := by omega
      have es : bst (j + 1) = stepN m rs row (bst j) j := by
        have := foldl_take (stepN m rs row) none 0 (List.range n) j (by rw [List.length_range]; exact hj)
        rw [show (List.range n).getD j 0 = j by rw [List.getD_eq_getElem?_getD, List.getElem?_range hj]; rfl] at this
        exact this
      generalize hb : bst j = b at es ⊢
      have hp0 : ∀ {X : Cx} {r : Rho} {a k1 : Expr} {ps : Pos}, PE X a (tT r (tyD X.K (.list (row.map .str)))) → PE X k1 (tT r (dI X (j : Nat))) → PlainIx k1 → PE X (.Subscript a k1 ps) (tT r (tyD X.K (.str (row.getD j "")))) := fun h1 h2 h3 => te_ixL h1 h2 (strs_at (by omega)) h3
      have hp1 : ∀ {X : Cx} {r : Rho} {a k1 : Expr} {ps : Pos}, PE X a (tT r (tyD X.K (.list (row.map .str)))) → PE X k1 (tT r (dI X (((j : Nat) : Int) + 1))) → PlainIx k1 → PE X (.Subscript a k1 ps) (tT r (tyD X.K (.str (row.getD (j + 1) "")))) := fun h1 h2 h3 => te_ixL h1 h2 (by rw [show (((j : Nat) : Int) + 1) = ((j + 1 : Nat) : Int) from rfl]; exact strs_at hjr) h3
      have lowp : Low (pairAt row j).1 ∧ Low (pairAt row j).2 := by
        have g : ∀ i, i < row.length → Low (row.getD i "") := fun i hi => by
          rw [List.getD_eq_getElem?_getD, List.getElem?_eq_getElem hi]
          exact rlow _ (List.getElem_mem hi)
        exact ⟨g j (by omega), g (j + 1) hjr⟩
      have sp : SeqAt.shaped (pairD (pairAt row j)) = true := (shD_pair lowp.1 lowp.2).shaped
      have sl : SeqAt.shaped (.list (rs.map pairD)) = true := (ShD.lst (n := 1) fun d hd => by
        obtain ⟨q, hq, e⟩ := List.mem_map.mp hd
        exact e ▸ shD_pair (low q hq).1 (low q hq).2).shaped
      refine ts_one (ts_if (k := inD (rs.map pairD) (pairD (pairAt row j))) (tt_inL hu (te_tup (ds := [.str (row.getD j ""), .str (row.getD (j + 1) "")]) (ta_cons (hp0 (te_var 0) (te_var 4) (fun _ _ => rfl)) (ta_one (hp1 (te_var 0) (te_addI (te_var 4) te_int) (fun _ _ => rfl)) rfl))) (te_var 1) sp sl) (fun h => ?_) fun h => ts_nil ?_)
      · rw [inD_pairs, decide_eq_true_eq] at h
        cases ho : rankOf rs (pairAt row j) with
        | none => exact absurd h (rankOf_none.mp ho)
        | some o =>
          obtain ⟨o1, o2⟩ := rankOf_at ho
          refine ts_cons (ts_set 5 (te_indexD (ds := rs.map pairD) (d := pairD (pairAt row j)) (j := o) hu (te_var 1) (te_tup (ds := [.str (row.getD j ""), .str (row.getD (j + 1) "")]) (ta_cons (hp0 (te_var 0) (te_var 4) (fun _ _ => rfl)) (ta_one (hp1 (te_var 0) (te_addI (te_var 4) te_int) (fun _ _ => rfl)) rfl))) sl sp (z := pairD (pairAt row j)) (by rw [List.getElem?_map, o1]; rfl) (by rw [eqv_pair]; exact decide_eq_true rfl) fun k z hk hz => ?_) ?_ sc64.nd)
          · rw [List.getElem?_map] at hz
            cases hq : rs[k]? with
            | none => rw [hq] at hz; cases hz
            | some q =>
              rw [hq] at hz
              obtain rfl := Option.some.inj hz
              rw [eqv_pair]
              exact decide_eq_false fun e => o2 k hk (by rw [hq, e])
          · unfold stepN at es
            rw [ho] at es
            have shr : SeqAt.shaped (PyData.tuple [.str "ranked", .str "rightranked"]) = true := by decide +kernel
            have shm : SeqAt.shaped (.str m) = true := (ShD.str (manners_ok m hmm)).shaped
            cases b with
            | none =>
              refine ts_cons (ts_set 6 (te_and (c := false) (d := false) (te_notN (d := bestD none) (te_var 3)) fun h => nomatch h) ?_ sc64.nd)
              refine ts_one (ts_if (k := true || false) (PW.pt (tw_or (tt_isN (d := bestD none) (te_var 3)) fun z => by cases z)) (fun _ => ts_one (ts_set 3 (te_tup (ds := [.int (o : Nat), .int (j : Nat)]) (ta_cons (te_var 5) (ta_one (te_var 4) rfl))) ?_ sc64.nd)) (fun z => nomatch z))
              exact ⟨_, _, _, by rw [es]; rfl⟩
            | some q =>
              let least := decide (((o : Nat) : Int) < ((q.1 : Nat) : Int)) || (decide (((o : Nat) : Int) = ((q.1 : Nat) : Int)) && decide (m = "rightranked"))
              refine ts_cons (ts_set 6 (T := tyD K (.bool (true && least))) (te_and (te_notN (d := placeD q) (te_var 3)) fun _ => te_one (te_or (te_lt (te_var 5) (te_ixT (te_var 3 (T := tyD K (placeD q))) te_int rfl)) fun _ => te_one (te_and (te_eqI (te_var 5) (te_ixT (te_var 3 (T := tyD K (placeD q))) te_int rfl)) fun _ => te_one (te_eqS (te_var 2) te_str)))) ?_ sc64.nd)
              refine ts_one (ts_if (k := false || (decide (m = "rightmost") || (inD [.str "ranked", .str "rightranked"] (.str m) && (true && least)))) (PW.pt (tw_or (tt_isN (d := placeD q) (te_var 3)) fun _ => tw_or (tt_eqS (te_var 2) te_str) fun _ => tw_or1 (PW.pt (tw_and (tt_inT hu (te_var 2) (te_le (te_tup (ds := [.str "ranked", .str "rightranked"]) (ta_cons te_str (ta_one te_str rfl))) tyD_n) shm shr) fun _ => tw_and1 (tt_val (te_var 6)))))) (fun z => ?_) fun z => ts_nil ?_)
              · refine ts_one (ts_set 3 (te_tup (ds := [.int (o : Nat), .int (j : Nat)]) (ta_cons (te_var 5) (ta_one (te_var 4) rfl))) ?_ sc64.nd)
                have hc : m = "rightmost" ∨ ((m = "ranked" ∨ m = "rightranked") ∧ (o < q.1 ∨ (o = q.1 ∧ m = "rightranked"))) := by
                  have e1 : inD [.str "ranked", .str "rightranked"] (.str m) = decide (m ∈ (["ranked", "rightranked"] : List Str)) := inD_strs (xs := ["ranked", "rightranked"])
                  rw [e1] at z
                  simpa [least, Int.ofNat_lt, Int.ofNat_inj] using z
                exact ⟨_, _, _, by rw [es]; simp only [if_pos hc]; rfl⟩
              · have hc : ¬ (m = "rightmost" ∨ ((m = "ranked" ∨ m = "rightranked") ∧ (o < q.1 ∨ (o = q.1 ∧ m = "rightranked")))) := by
                  have e1 : inD [.str "ranked", .str "rightranked"] (.str m) = decide (m ∈ (["ranked", "rightranked"] : List Str)) := inD_strs (xs := ["ranked", "rightranked"])
                  rw [e1] at z
                  intro y
                  have : (false || (decide (m = "rightmost") || (decide (m ∈ (["ranked", "rightranked"] : List Str)) && (true && least)))) = true := by
                    simpa [least, Int.ofNat_lt, Int.ofNat_inj] using y
                  rw [this] at z
                  cases z
                exact ⟨_, _, _, by rw [es]; simp only [if_neg hc]; rfl⟩
      · rw [inD_pairs, decide_eq_false_iff_not] at h
        exact ⟨_, _, _, by rw [es]; unfold stepN; rw [rankOf_none.mpr h]; rfl⟩
end
end K14
/-! HA: the law's own cut, plain. -/
namespace K14
open PySem PySem.Spec PyProof.Rows L2
def flat (row : List Str) : List Nat := row.flatMap fun x => x.cps.toList
structure Cutd (z : Str) (row : List Str) : Prop where
  fl : flat row = z.cps.toList
  ne : ∀ x ∈ row, x ≠ ""
theorem ne_pos {x : Str} (h : x ≠ "") : 0 < x.cps.toList.length := List.length_pos_iff.mpr fun e => h (by
  have : x.cps = #[] := by
    cases hx : x.cps with
    | mk l =>
      rw [hx] at e
      simp at e
      rw [e]
  cases x
  simp only at this
  rw [this]
  rfl)
theorem flat_len : ∀ {row : List Str}, (∀ x ∈ row, x ≠ "") → row.length ≤ (flat row).length
  | [], _ => Nat.zero_le _
  | x :: row, h => by
    have h1 := ne_pos (h x List.mem_cons_self)
    have h2 := flat_len fun y hy => h y (List.mem_cons_of_mem _ hy)
    unfold flat at h2 ⊢
    rw [List.flatMap_cons, List.length_append, List.length_cons]
    omega
theorem Cutd.len {z : Str} {row : List Str} (h : Cutd z row) : row.length ≤ z.length := by
  have := flat_len h.ne
  rw [h.fl] at this
  exact this
theorem Cutd.sub {z : Str} {row : List Str} (h : Cutd z row) {x : Str} (hx : x ∈ row) : ∀ c ∈ x.cps.toList, c ∈ z.cps.toList := fun c hc => by
  rw [← h.fl]
  exact List.mem_flatMap.mpr ⟨x, hx, hc⟩
theorem flat_mem_len : ∀ {row : List Str} {x : Str}, x ∈ row → x.cps.toList.length ≤ (flat row).length
  | y :: row, x, h => by
    unfold flat
    rw [List.flatMap_cons, List.length_append]
    rcases List.mem_cons.mp h with e | h
    · subst e
      omega
    · have := flat_mem_len h
      unfold flat at this
      omega
theorem Cutd.each {z : Str} {row : List Str} (h : Cutd z row) {x : Str} (hx : x ∈ row) : x.length ≤ z.length := by
  have := flat_mem_len hx
  rw [h.fl] at this
  exact this
theorem flat_signs' (cs : List Nat) : flat (cs.map sgn) = cs := flat_signs cs
theorem cutd_sigs (z : Str) : Cutd z (sigs z) := ⟨flat_signs' _, fun x hx => by
  obtain ⟨c, _, e⟩ := List.mem_map.mp hx
  exact e ▸ sgn_ne c⟩
theorem row_split {row : List Str} {k : Nat} (h : k + 1 < row.length) : row = row.take k ++ row.getD k "" :: row.getD (k + 1) "" :: row.drop (k + 2) := by
  have e1 : row.getD k "" = row[k] := by rw [List.getD_eq_getElem?_getD, List.getElem?_eq_getElem (by omega)]; rfl
  have e2 : row.getD (k + 1) "" = row[k + 1] := by rw [List.getD_eq_getElem?_getD, List.getElem?_eq_getElem h]; rfl
  rw [e1, e2, ← List.drop_eq_getElem_cons h, ← List.drop_eq_getElem_cons (by omega : k < row.length), List.take_append_drop]
theorem flat_app (a b : List Str) : flat (a ++ b) = flat a ++ flat b := List.flatMap_append ..
theorem flat_cons (a : Str) (b : List Str) : flat (a :: b) = a.cps.toList ++ flat b := List.flatMap_cons ..
theorem str_app (a b : Str) : (a ++ b).cps.toList = a.cps.toList ++ b.cps.toList := by
  show (a.cps ++ b.cps).toList = _
  rw [Array.toList_append]
theorem app_ne {a b : Str} (h : a ≠ "") : a ++ b ≠ "" := fun e => by
  have h1 := ne_pos h
  have h2 : (a ++ b).cps.toList = [] := by rw [e]; rfl
  rw [str_app] at h2
  rw [(List.append_eq_nil_iff.mp h2).1] at h1
  exact absurd h1 (by decide)
theorem Cutd.join {z : Str} {row : List Str} {k : Nat} (h : Cutd z row) (hk : k + 1 < row.length) : Cutd z (joinN row k) := by
  refine ⟨?_, fun x hx => ?_⟩
  · rw [← h.fl]
    conv => rhs; rw [row_split hk]
    unfold joinN
    rw [flat_app, flat_app, flat_cons, flat_cons, flat_cons, str_app, List.append_assoc]
  · unfold joinN at hx
    rcases List.mem_append.mp hx with hx | hx
    · exact h.ne x (List.mem_of_mem_take hx)
    · rcases List.mem_cons.mp hx with e | hx
      · subst e
        refine app_ne (h.ne _ ?_)
        rw [List.getD_eq_getElem?_getD, List.getElem?_eq_getElem (by omega)]
        exact List.getElem_mem _
      · exact h.ne x (List.mem_of_mem_drop hx)
theorem rankOf_mem {rs : List Rule} {p : Rule} {o : Nat} (h : rankOf rs p = some o) : p ∈ rs := List.mem_of_getElem? (rankOf_at h).1
theorem fold_next (m : Str) (rs : List Rule) (row : List Str) : ∀ (l : List Nat) (b : Option (Nat × Nat)), (∀ k ∈ l, k + 1 < row.length) → (∀ q, b = some q → q.2 + 1 < row.length ∧ rankOf rs (pairAt row q.2) = some q.1) → ∀ q, l.foldl (stepN m rs row) b = some q → q.2 + 1 < row.length ∧ rankOf rs (pairAt row q.2) = some q.1
  | [], b, _, hb, q, e => hb q e
  | k :: l, b, hl, hb, q, e => by
    refine fold_next m rs row l _ (fun j hj => hl j (List.mem_cons_of_mem _ hj)) (fun q' e' => ?_) q e
    unfold stepN at e'
    cases ho : rankOf rs (pairAt row k) with
    | none =>
      rw [ho] at e'
      exact hb q' e'
    | some o =>
      rw [ho] at e'
      have new : q' = (o, k) → q'.2 + 1 < row.length ∧ rankOf rs (pairAt row q'.2) = some q'.1 := fun z => by
        subst z
        exact ⟨hl k List.mem_cons_self, ho⟩
      cases b with
      | none => exact new (Option.some.inj e').symm
      | some b =>
        simp only at e'
        split at e'
        · exact new (Option.some.inj e').symm
        · exact hb q' e'
theorem lawNext_some {m : Str} {rs : List Rule} {row : List Str} {q : Nat × Nat} (h : lawNext m rs row = some q) : q.2 + 1 < row.length ∧ rankOf rs (pairAt row q.2) = some q.1 :=
  fold_next m rs row _ none (fun k hk => by
    have := List.mem_range.mp hk
    omega) (fun q e => nomatch e) q h
def laps (m : Str) (rs : List Rule) : Nat → List Str → List Str
  | 0, row => row
  | n + 1, row => match lawNext m rs row with
    | none => row
    | some q => laps m rs n (joinN row q.2)
def lawStages (T : Tb) : List (List Rule) := if T.m = "once" then T.rs.map (fun p => [p]) else [T.rs]
def lawCut (T : Tb) (z : Str) : List Str := (lawStages T).foldl (fun row rs => laps T.m rs z.length row) (sigs z)
theorem laps_cutd {m : Str} {rs : List Rule} {z : Str} : ∀ (n : Nat) {row : List Str}, Cutd z row → Cutd z (laps m rs n row)
  | 0, _, h => h
  | n + 1, row, h => by
    unfold laps
    cases e : lawNext m rs row with
    | none => exact h
    | some q => exact laps_cutd n (h.join (lawNext_some e).1)
end K14
/-! MF: the law's cut, is_over. -/
namespace K14
open PySem PySem.Spec PyProof.Rows L2
structure CuIx where
  T : Tb
  z : Str
  O : TbOk T
  W : WordOf T.ls z
structure OvIx where
  T : Tb
  row : List Str
  O : TbOk T
  rl : row.length ≤ 1000
  rlow : ∀ x ∈ row, Low x
  no : T.m ≠ "once" → ∀ j, j + 1 < row.length → pairAt row j ∉ T.rs
section
variable {P : Program} {w : World} {K : PySem.W.Frag} {mg : Str → Option Value} {base : Heap} {f : Addr} {fd : FuncData}
abbrev CLCut (P : Program) (w : World) (K : PySem.W.Frag) (mg : Str → Option Value) (base : Heap) : Prop := Cal P w K mg base 2 "_law_cut" (fun i : CuIx => [tyD K (tbD i.T), tyD K (.str i.z)]) (fun i => tyD K (strsD (lawCut i.T i.z)))
abbrev cuN : List Str := ["_law_triple", "_law_word", "_law_row", "_law_stages", "_law_pair", "_law_stage", "_law_lap", "_law_k"]
theorem sc65 : FnScope cuN ["_law_triple", "_law_word"] (scopeAt 65) := ⟨rfl, rfl, rfl, by decide +kernel, rfl, by decide +kernel, by decide +kernel⟩
abbrev stgD (rs : List Rule) : PyData := .list (rs.map pairD)
theorem ok_law_cut (F : DefAt K "_law_cut" 65 f fd) (hm : mg "_law_cut" = some (.ref f)) (B : Free mg) (c64 : CNx P w K mg base) : CLCut P w K mg base := by
  refine cal_of F hm sc65 (fun kV doc pm an cdv ct us hl => ?_) (fun _ => rfl) fun i cdv A outer s H E hr => ?_
  · match us, hl with
    | [a, b], _ => rfl
  · obtain ⟨T, z, O, W⟩ := i
    have zl := W.len
    have lowz : ∀ {row : List Str}, Cutd z row → ∀ x ∈ row, Low x := fun C x hx c hc => O.ls.low c (W.of c (C.sub hx c hc))
    have stOk : ∀ rs ∈ lawStages T, rs.Nodup ∧ rs.length ≤ 1000 ∧ ∀ q ∈ rs, Low q.1 ∧ Low q.2 := fun rs h => by
      unfold lawStages at h
      split at h
      · obtain ⟨p, hp, e⟩ := List.mem_map.mp h
        subst e
        exact ⟨List.nodup_cons.mpr ⟨List.not_mem_nil, List.nodup_nil⟩, (by show 1 ≤ 1000; decide), fun q hq => by
          rw [List.mem_singleton.mp hq]
          exact (O.rs p hp).shD O.ls⟩
      · rw [List.mem_singleton.mp h]
        exact ⟨O.nd, O.len, fun q hq => (O.rs q hq).shD O.ls⟩
    have sl : (lawStages T).length ≤ 1000 := by
      unfold lawStages
      split
      · rw [List.length_map]
        exact O.len
      · show 1 ≤ 1000
        decide
    have hl2 : (T.rs.map pairD).length = T.rs.length := List.length_map ..
    refine ts_cons (ts_set 2 (T := tyD K (.list ((sigs z).map .str))) (te_le (te_lstS rfl B.list (te_var 1) (Nat.le_trans zl (by decide))) tyTL_le) ?_ sc65.nd)
    refine ts_cons (ts_set 3 (T := tyD K (.list ((lawStages T).map stgD))) (te_ite (c := decide (T.m = "once")) (tt_eqS (te_ixT (d := .str T.m) (te_var 0 (T := tyD K (tbD T))) te_int rfl) te_str) (fun h => ?_) fun h => ?_) ?_ sc65.nd)
    · have e : lawStages T = T.rs.map fun p => [p] := by unfold lawStages; rw [if_pos (of_decide_eq_true h)]
      rw [e]
      refine te_lcL (n := (T.rs.map pairD).length) (item := itD K (T.rs.map pairD)) (p := fun _ => true) (el := fun j => .list [pairD (T.rs.getD j ("", ""))]) (nxt := fun j => _) [("_law_pair", 4)] rfl sc65.nd (ti_tup (te_ixT (d := rulesD T.rs) (te_var 0 (T := tyD K (tbD T))) te_int rfl)) (by rw [hl2]; exact Nat.le_trans O.len (by decide)) (blkOk_by (N := cuN) (sc := scopeAt 65) (by decide +kernel))
        (lcok (fun j hj s' H' C cl fp => tg_name 4 sc65.nd (by decide)) (fun j hj s' H' C cl fp => ?_)) ?_
      · rw [hl2] at hj
        refine te_le (te_lst (ds := [pairD (T.rs.getD j ("", ""))]) (ta_one (te_d (te_var 4) ?_) rfl)) tyTL_le
        rw [getD_map pairD .none T.rs j hj, List.getD_eq_getElem?_getD, List.getElem?_eq_getElem hj]
        rfl
      · rw [hl2, List.map_map]
        exact took_map (fun p => PyData.list [pairD p]) ("", "") T.rs (fun _ => true) (fun j => .list [pairD (T.rs.getD j ("", ""))]) (fun _ _ => rfl) (fun _ _ => rfl)
    · have e : lawStages T = [T.rs] := by unfold lawStages; rw [if_neg (of_decide_eq_false h)]
      rw [e]
      exact te_le (te_lst (ds := [.list (T.rs.map pairD)]) (ta_one (te_le (te_listT (ds := T.rs.map pairD) B.list (te_ixT (d := rulesD T.rs) (te_var 0 (T := tyD K (tbD T))) te_int rfl)) tyTL_le) rfl)) tyTL_le
    · let rho := fun (row : List Str) (a x y k : Option Ty) => ([some (tyD K (tbD T)), some (tyD K (.str z)), some (tyD K (.list (row.map .str))), some (tyD K (.list ((lawStages T).map stgD))), a, x, y, k] : Rho)
      let row := fun (j : Nat) => ((lawStages T).take j).foldl (fun row rs => laps T.m rs z.length row) (sigs z)
      refine ts_cons (ts_for (n := ((lawStages T).map stgD).length) (item := itD K ((lawStages T).map stgD)) (vs := [5]) (fun j ρ' => ∃ a x y k, ρ' = rho (row j) a x y k ∧ Cutd z (row j)) (fun j ρ' => ρ'.set 5 (some (itD K ((lawStages T).map stgD) j)))
        PassesOwn.never rfl (ti_list (te_var 3)) ⟨_, _, _, _, rfl, cutd_sigs z⟩ (fun ρ' ⟨a, x, y, k, e, C⟩ => ?_) (fun j ρ' hj _ => tg_name 5 sc65.nd (by decide)) fun j ρ' hj ⟨a, x, y, k, e, C⟩ => ?_)
      · subst e
        refine ts_one (ts_ret (T := tyD K (strsD (lawCut T z))) ?_)
        have e2 : row ((lawStages T).map stgD).length = lawCut T z := by
          show ((lawStages T).take _).foldl _ _ = _
          rw [List.length_map, List.take_length]
          rfl
        rw [← e2]
        exact te_tupleL B.tuple (te_var 2)
      · subst e
        rw [List.length_map] at hj
        have e5 : itD K ((lawStages T).map stgD) j = tyD K (stgD ((lawStages T).getD j [])) := by
          show tyD K _ = _
          rw [getD_map stgD .none _ j hj, List.getD_eq_getElem?_getD, List.getElem?_eq_getElem hj]
          rfl
        rw [e5]
        have erow : row (j + 1) = laps T.m ((lawStages T).getD j []) z.length (row j) := foldl_take (fun row rs => laps T.m rs z.length row) (sigs z) [] (lawStages T) j hj
        have hrs := stOk ((lawStages T).getD j []) (by rw [List.getD_eq_getElem?_getD, List.getElem?_eq_getElem hj]; exact List.getElem_mem hj)
        generalize (lawStages T).getD j [] = rs at erow hrs
        have fin : ∀ r a x y k, Cutd z r → row (j + 1) = r → ∃ a' x' y' k', rho r a x y k = rho (row (j + 1)) a' x' y' k' ∧ Cutd z (row (j + 1)) := fun r a x y k hC e => ⟨a, x, y, k, by rw [e], by rw [e]; exact hC⟩
        refine ts_one (ts_for (n := z.length) (item := fun i => tyD K (.int (i : Nat))) (vs := [6]) (fun i ρ' => ∃ r a y k, ρ' = rho r a (some (tyD K (stgD rs))) y k ∧ Cutd z r ∧ laps T.m rs (z.length - i) r = row (j + 1)) (fun i ρ' => ρ'.set 6 (some (tyD K (.int (i : Nat)))))
          PassesOwn.never rfl ?_ ⟨row j, _, _, _, rfl, C, by rw [erow]; rfl⟩ (fun ρ' ⟨r, a, y, k, e, hC, hr2⟩ => ?_) (fun i ρ' hi _ => tg_name 6 sc65.nd (by decide)) fun i ρ' hi ⟨r, a, y, k, e, hC, hr2⟩ => ?_)
        · exact pi_congr (ti_range (m := ((z.length : Nat) : Int)) B.range (te_len (d := .str z) (n := z.length) B.len (te_var 1) rfl (Nat.le_trans zl (by decide))) ⟨by omega, by omega⟩) (by omega) fun _ _ => rfl
        · subst e
          rw [Nat.sub_self] at hr2
          exact fin _ _ _ _ _ hC hr2.symm
        · subst e
          have e3 : z.length - i = (z.length - (i + 1)) + 1 := by omega
          rw [e3] at hr2
          unfold laps at hr2
          have rl : r.length ≤ 1000 := Nat.le_trans hC.len zl
          refine ts_cons (ts_set 7 (te_fn (i := NxIx.mk r rs T.m hrs.1 hrs.2.1 hrs.2.2 rl (lowz hC) O.m) c64 hr (ta_cons (te_var 2) (ta_cons (te_var 5) (ta_one (te_ixT (d := .str T.m) (te_var 0 (T := tyD K (tbD T))) te_int rfl) rfl)))) ?_ sc65.nd)
          cases hq : lawNext T.m rs r with
          | none =>
            rw [hq] at hr2
            exact ts_cons (ts_if (k := true) (tt_isN (d := .none) (te_var 7)) (fun _ => ts_one (ts_break (fin _ _ _ _ _ hC hr2.symm))) fun h => nomatch h)
          | some q =>
            rw [hq] at hr2
            have hk := (lawNext_some hq).1
            have l1 : (r.getD q.2 "").length ≤ 1000 := by
              rw [List.getD_eq_getElem?_getD, List.getElem?_eq_getElem (by omega)]
              exact Nat.le_trans (hC.each (List.getElem_mem _)) zl
            have l2 : (r.getD (q.2 + 1) "").length ≤ 1000 := by
              rw [List.getD_eq_getElem?_getD, List.getElem?_eq_getElem hk]
              exact Nat.le_trans (hC.each (List.getElem_mem _)) zl
            refine ts_cons (ts_if (k := false) (tt_isN (d := .int (q.2 : Nat)) (te_var 7)) (fun h => nomatch h) fun _ => ts_nil ?_)
            refine ts_one (ts_set 2 (T := tyD K (.list ((joinN r q.2).map .str))) (te_le (te_addL (te_addL (te_slL (ds := r.map .str) (te_var 2) to_none (to_some (te_var 7 (T := tyD K (.int (q.2 : Nat)))))) (te_lst (ds := [.str (r.getD q.2 "" ++ r.getD (q.2 + 1) "")]) (ta_one (te_addS (te_ixL (ds := r.map .str) (te_var 2) (te_var 7 (T := tyD K (.int (q.2 : Nat)))) (strs_at (by omega))) (te_ixL (ds := r.map .str) (te_var 2) (te_addI (te_var 7 (T := tyD K (.int (q.2 : Nat)))) (te_int (i := 1))) (strs_at (k := q.2 + 1) hk)) (by omega)) rfl)) ?_) (te_slL (ds := r.map .str) (te_var 2) (to_some (te_addI (te_var 7 (T := tyD K (.int (q.2 : Nat)))) (te_int (i := 2)))) to_none) ?_) ?_) ?_ sc65.nd)
            · have := cutL_len (r.map PyData.str) none (some ((q.2 : Nat) : Int))
              rw [List.length_map] at this
              show (cutL (r.map PyData.str) none (some ((q.2 : Nat) : Int))).length + 1 ≤ _
              omega
            · have h1 := cutL_len (r.map PyData.str) none (some ((q.2 : Nat) : Int))
              have h2 := cutL_len (r.map PyData.str) (some (((q.2 : Nat) : Int) + 2)) none
              rw [List.length_map] at h1 h2
              rw [List.length_append]
              show (cutL (r.map PyData.str) none (some ((q.2 : Nat) : Int))).length + 1 + (cutL (r.map PyData.str) (some (((q.2 : Nat) : Int) + 2)) none).length ≤ _
              omega
            · have e4 : (cutL (r.map PyData.str) none (some ((q.2 : Nat) : Int)) ++ [PyData.str (r.getD q.2 "" ++ r.getD (q.2 + 1) "")]) ++ cutL (r.map PyData.str) (some ((q.2 + 2 : Nat) : Int)) none = (joinN r q.2).map .str := by
                rw [cutL_to, cutL_from, List.append_assoc]
                unfold joinN
                rw [List.map_append, List.map_cons, List.map_take, List.map_drop]
                rfl
              exact fun H v hv => tyTL_le H v (by rw [← e4]; exact hv)
            · exact ⟨_, _, _, _, rfl, hC.join hk, hr2⟩
/-! is_over -/
abbrev COver (P : Program) (w : World) (K : PySem.W.Frag) (mg : Str → Option Value) (base : Heap) : Prop := Cal P w K mg base 1 "_law_is_over" (fun i : OvIx => [tyD K (tbD i.T), tyD K (strsD i.row)]) (fun _ => tyD K (.bool true))
abbrev ovN : List Str := ["_law_triple", "_law_pieces", "_law_k"]
theorem sc67 : FnScope ovN ["_law_triple", "_law_pieces"] (scopeAt 67) := ⟨rfl, rfl, rfl, by decide +kernel, rfl, by decide +kernel, by decide +kernel⟩
theorem ok_law_is_over (F : DefAt K "_law_is_over" 67 f fd) (hm : mg "_law_is_over" = some (.ref f)) (B : Free mg) : COver P w K mg base := by
  refine cal_of F hm sc67 (fun kV doc pm an cdv ct us hl => ?_) (fun _ => rfl) fun i cdv A outer s H E hr => ?_
  · match us, hl with
    | [a, b], _ => rfl
  · obtain ⟨T, row, O, rl, rlow, no⟩ := i
    have hu := units65 hr
    have hlen : lenD (strsD row) = some row.length := congrArg some (List.length_map ..)
    refine ts_cons (ts_if (k := decide (T.m = "once")) (tt_eqS (te_ixT (d := .str T.m) (te_var 0 (T := tyD K (tbD T))) te_int rfl) te_str) (fun _ => ts_one (ts_ret te_bl)) fun h => ts_nil ?_)
    have no := no (of_decide_eq_false h)
    refine ts_one (ts_ret (te_b (te_eqD (d := .list []) (d' := .list []) (Nat.lt_of_succ_lt hu) (te_lcL (n := row.length - 1) (item := fun i => tyD K (.int (i : Nat))) (p := fun _ => false) (el := fun _ => .none) (nxt := fun _ => _) [("_law_k", 2)] rfl sc67.nd ?_ (by omega) (blkOk_by (N := ovN) (sc := scopeAt 67) (by decide +kernel)) (lcokIf (fun j hj s' H' C cl fp => tg_name 2 sc67.nd (by decide)) (fun j hj s' H' C cl' fp => ?_) fun j hj hb s' H' C cl fp => nomatch hb) (took_none _ _)) (te_le (te_lst (ds := []) ta_nil) tyTL_le) rfl rfl) rfl))
    · exact pi_congr (ti_range (m := ((row.length : Nat) : Int) - 1) B.range (te_subI (te_len (d := strsD row) B.len (te_var 1) hlen (Nat.le_trans rl (by decide))) te_int) ⟨by omega, by omega⟩) (by omega) fun _ _ => rfl
    · have hj1 : j + 1 < row.length := by omega
      have g : ∀ i, i < row.length → Low (row.getD i "") := fun i hi => by
        rw [List.getD_eq_getElem?_getD, List.getElem?_eq_getElem hi]
        exact rlow _ (List.getElem_mem hi)
      refine tt_is (tt_inT (d := pairD (pairAt row j)) hu (te_tup (ds := [.str (row.getD j ""), .str (row.getD (j + 1) "")]) (ta_cons (te_ixT (te_var 1 (T := tyD K (strsD row))) (te_var 2) (strs_at (by omega))) (ta_one (te_ixT (te_var 1 (T := tyD K (strsD row))) (te_addI (te_var 2) (te_int (i := 1))) (strs_at (k := j + 1) hj1)) rfl))) (te_le (te_ixT (d := rulesD T.rs) (te_var 0 (T := tyD K (tbD T))) te_int rfl) tyD_n) (shD_pair (g j (by omega)) (g (j + 1) hj1)).shaped (shD_rs O)) ?_
      rw [inD_pairs]
      exact decide_eq_false (no j hj1)
end
end K14
/-! MG: the law's texts. -/
namespace K14
open PySem PySem.Spec PyProof.Rows L2
def extW (cs : List Nat) (w : Str) : List Str := cs.map fun c => w ++ sgn c
def lastT (cs : List Nat) : Nat → List Str
  | 0 => [""]
  | n + 1 => (lastT cs n).flatMap (extW cs)
def foundT (cs : List Nat) : Nat → List Str
  | 0 => [""]
  | n + 1 => foundT cs n ++ lastT cs (n + 1)
def mostT (n : Nat) : Nat := ([9, 4, 3, 2] : List Nat).getD (n - 1) 0
def textsT (cs : List Nat) : List Str := foundT cs (mostT cs.length)
theorem flatMap_len {α β : Type} (f : α → List β) (n : Nat) (h : ∀ x, (f x).length = n) : ∀ xs : List α, (xs.flatMap f).length = xs.length * n
  | [] => by simp
  | x :: xs => by rw [List.flatMap_cons, List.length_append, flatMap_len f n h xs, h, List.length_cons, Nat.succ_mul, Nat.add_comm]
theorem lastT_len (cs : List Nat) : ∀ n, (lastT cs n).length = cs.length ^ n
  | 0 => rfl
  | n + 1 => by
    unfold lastT
    rw [flatMap_len (extW cs) cs.length (fun x => List.length_map ..), lastT_len cs n, Nat.pow_succ]
theorem lastT_le {cs : List Nat} (h0 : 0 < cs.length) (h4 : cs.length ≤ 4) {n : Nat} (hn : n ≤ mostT cs.length) : (lastT cs n).length ≤ 64 := by
  rw [lastT_len]
  refine Nat.le_trans (Nat.pow_le_pow_right h0 hn) ?_
  have : cs.length = 1 ∨ cs.length = 2 ∨ cs.length = 3 ∨ cs.length = 4 := by omega
  rcases this with e | e | e | e <;> rw [e] <;> decide
theorem mostT_le {n : Nat} (h0 : 0 < n) (h4 : n ≤ 4) : mostT n ≤ 9 := by
  have : n = 1 ∨ n = 2 ∨ n = 3 ∨ n = 4 := by omega
  rcases this with e | e | e | e <;> rw [e] <;> decide
theorem foundT_le {cs : List Nat} (h0 : 0 < cs.length) (h4 : cs.length ≤ 4) : ∀ {n : Nat}, n ≤ mostT cs.length → (foundT cs n).length ≤ 1 + n * 64
  | 0, _ => Nat.le_refl _
  | n + 1, h => by
    unfold foundT
    rw [List.length_append]
    have h1 := foundT_le h0 h4 (n := n) (by omega)
    have h2 := lastT_le h0 h4 h
    omega
theorem lastT_of {cs : List Nat} : ∀ n, ∀ z ∈ lastT cs n, (∀ c ∈ z.cps.toList, c ∈ cs) ∧ z.length = n
  | 0, z, h => by
    rw [List.mem_singleton.mp h]
    exact ⟨fun c hc => absurd hc List.not_mem_nil, rfl⟩
  | n + 1, z, h => by
    unfold lastT at h
    obtain ⟨w, hw, hz⟩ := List.mem_flatMap.mp h
    obtain ⟨c, hc, e⟩ := List.mem_map.mp hz
    obtain ⟨h1, h2⟩ := lastT_of n w hw
    subst e
    refine ⟨fun d hd => ?_, ?_⟩
    · rw [str_app] at hd
      rcases List.mem_append.mp hd with hd | hd
      · exact h1 d hd
      · rw [List.mem_singleton.mp hd]
        exact hc
    · rw [str_app_len, h2]
      rfl
theorem foundT_of {cs : List Nat} : ∀ n, ∀ z ∈ foundT cs n, (∀ c ∈ z.cps.toList, c ∈ cs) ∧ z.length ≤ n
  | 0, z, h => by
    rw [List.mem_singleton.mp h]
    exact ⟨fun c hc => absurd hc List.not_mem_nil, Nat.le_refl _⟩
  | n + 1, z, h => by
    unfold foundT at h
    rcases List.mem_append.mp h with h | h
    · obtain ⟨h1, h2⟩ := foundT_of n z h
      exact ⟨h1, Nat.le_succ_of_le h2⟩
    · obtain ⟨h1, h2⟩ := lastT_of (n + 1) z h
      exact ⟨h1, Nat.le_of_eq h2⟩
structure TeIx where
  cs : List Nat
  L : LetOk cs
  h4 : cs.length ≤ 4
theorem TeIx.pos (i : TeIx) : 0 < i.cs.length := List.length_pos_iff.mpr i.L.ne
theorem texts_of (i : TeIx) : (textsT i.cs).length ≤ 1000 ∧ ∀ z ∈ textsT i.cs, WordOf i.cs z := by
  have hm := mostT_le i.pos i.h4
  refine ⟨Nat.le_trans (foundT_le i.pos i.h4 (Nat.le_refl _)) (by omega), fun z hz => ?_⟩
  obtain ⟨h1, h2⟩ := foundT_of _ z hz
  exact ⟨h1, by omega⟩
theorem took_succ' {α : Type} (xs : List α) (j : Nat) (h : j < xs.length) : xs.take (j + 1) = xs.take j ++ [xs[j]] := by
  rw [List.take_succ, List.getElem?_eq_getElem h]
  rfl
section
variable {P : Program} {w : World} {K : PySem.W.Frag} {mg : Str → Option Value} {base : Heap} {f : Addr} {fd : FuncData}
abbrev CTexts (P : Program) (w : World) (K : PySem.W.Frag) (mg : Str → Option Value) (base : Heap) : Prop := Cal P w K mg base 1 "_law_texts" (fun i : TeIx => [tyD K (letD i.cs)]) (fun i => tyTL K ((textsT i.cs).map .str))
abbrev txN : List Str := ["_law_signs", "_law_most", "_law_found", "_law_last", "_law_lap", "_law_more_here", "_law_word", "_law_sign"]
theorem sc66 : FnScope txN ["_law_signs"] (scopeAt 66) := ⟨rfl, rfl, rfl, by decide +kernel, rfl, by decide +kernel, by decide +kernel⟩
theorem ok_law_texts (F : DefAt K "_law_texts" 66 f fd) (hm : mg "_law_texts" = some (.ref f)) (B : Free mg) : CTexts P w K mg base := by
  refine cal_of F hm sc66 (fun kV doc pm an cdv ct us hl => ?_) (fun _ => rfl) fun i cdv A outer s H E hr => ?_
  · match us, hl with
    | [a], _ => rfl
  · have cs := i.cs
    have p0 := i.pos
    have p4 := i.h4
    have m9 := mostT_le p0 p4
    have hll : ((i.cs.map sgn).map PyData.str).length = i.cs.length := by rw [List.length_map, List.length_map]
    have hlen : lenD (letD i.cs) = some i.cs.length := congrArg some hll
    refine ts_cons (ts_set 1 (T := tyD K (.int (mostT i.cs.length : Nat))) (te_ixL (ds := [.int 9, .int 4, .int 3, .int 2]) (i := ((i.cs.length : Nat) : Int) - 1) (te_le (te_lst (ds := [.int 9, .int 4, .int 3, .int 2]) (ta_cons te_int (ta_cons te_int (ta_cons te_int (ta_one te_int rfl))))) tyTL_le) (te_subI (te_len (d := letD i.cs) B.len (te_var 0) hlen (by omega)) te_int) ?_) ?_ sc66.nd)
    · have : i.cs.length = 1 ∨ i.cs.length = 2 ∨ i.cs.length = 3 ∨ i.cs.length = 4 := by omega
      rcases this with e | e | e | e <;> rw [e] <;> rfl
    refine ts_cons (ts_par (i := 2) (j := 3) (ta_cons (te_lst (ds := [.str ""]) (ta_one te_str rfl)) (ta_one (te_lst (ds := [.str ""]) (ta_one te_str rfl)) rfl)) ?_ rfl sc66.nd)
    let rho := fun (n : Nat) (a b c d : Option Ty) => ([some (tyD K (letD i.cs)), some (tyD K (.int (mostT i.cs.length : Nat))), some (tyTL K ((foundT i.cs n).map .str)), some (tyTL K ((lastT i.cs n).map .str)), a, b, c, d] : Rho)
    refine ts_cons (ts_for (n := mostT i.cs.length) (item := fun j => tyD K (.int (j : Nat))) (vs := [4]) (fun j ρ' => ∃ a b c d, ρ' = rho j a b c d) (fun j ρ' => ρ'.set 4 (some (tyD K (.int (j : Nat)))))
      PassesOwn.never rfl (pi_congr (ti_range (m := ((mostT i.cs.length : Nat) : Int)) B.range (te_var 1) ⟨by omega, by omega⟩) (by omega) fun _ _ => rfl) ⟨_, _, _, _, rfl⟩ (fun ρ' ⟨a, b, c, d, e⟩ => ?_) (fun j ρ' hj _ => tg_name 4 sc66.nd (by decide)) fun j ρ' hj ⟨a, b, c, d, e⟩ => ?_)
    · subst e
      exact ts_one (ts_ret (te_var 2))
    · subst e
      have l64 := lastT_le p0 p4 (n := j) (by omega)
      have l64' := lastT_le p0 p4 (n := j + 1) (by omega)
      have f64 := foundT_le p0 p4 (n := j) (by omega)
      have hl3 : ((lastT i.cs j).map PyData.str).length = (lastT i.cs j).length := List.length_map ..
      refine os_new 5 ne_lst (fun A => ?_) sc66.nd
      refine os_cons (os_for (n := ((lastT i.cs j).map PyData.str).length) (item := itD K ((lastT i.cs j).map PyData.str)) (vs := [6]) (fun q ts' ρ' => ts' = [oL K ((((lastT i.cs j).take q).flatMap (extW i.cs)).map .str)] ∧ ∃ c d, ρ' = rho j (some (tyD K (.int (j : Nat)))) (some (tyV (.ref A))) c d) (fun q ρ' => ρ'.set 6 (some (itD K ((lastT i.cs j).map PyData.str) q)))
        PassesOwn.never rfl (ti_list (te_le (te_var 3) tyTL_le)) ⟨rfl, c, d, rfl⟩ (fun ts' ρ' ⟨e1, c, d, e2⟩ => ?_) (fun q ts' ρ' hq _ => tg_name 6 sc66.nd (by decide)) fun q ts' ρ' hq ⟨e1, c, d, e2⟩ => ?_)
      · subst e1 e2
        rw [hl3, List.take_length]
        refine os_drop (Open.l (ds := (lastT i.cs (j + 1)).map .str) 5 0 Open.rfl') ?_
        refine ts_one (ts_par (i := 2) (j := 3) (ta_cons (te_addL (ds := (foundT i.cs j).map .str) (es := (lastT i.cs (j + 1)).map .str) (te_var 2) (te_var 5) ?_) (ta_one (te_var 5) rfl)) ?_ rfl sc66.nd)
        · rw [List.length_map, List.length_map]
          omega
        · exact ⟨_, _, _, _, by simp only [rho]; rw [show foundT i.cs (j + 1) = foundT i.cs j ++ lastT i.cs (j + 1) from rfl, List.map_append]; rfl⟩
      · subst e1 e2
        rw [hl3] at hq
        have e6 : itD K ((lastT i.cs j).map PyData.str) q = tyD K (.str (lastT i.cs j)[q]) := by
          show tyD K _ = _
          rw [getD_map PyData.str .none _ q hq]
        rw [e6]
        have hwl : (lastT i.cs j)[q].length = j := (lastT_of j _ (List.getElem_mem hq)).2
        generalize hw : (lastT i.cs j)[q] = w at hwl
        refine os_one (os_ext 5 0 (ds := (((lastT i.cs j).take q).flatMap (extW i.cs)).map .str) (ds' := (extW i.cs w).map .str) (oe_frame (te_lcD (n := ((i.cs.map sgn).map PyData.str).length) (item := itD K ((i.cs.map sgn).map PyData.str)) (p := fun _ => true) (el := fun k => .str (w ++ sgn (i.cs.getD k 0))) (nxt := fun k => _) [("_law_sign", 7)] rfl sc66.nd (ti_tup (te_var 0 (T := tyD K (letD i.cs)))) (by omega) (blkOk_by (N := txN) (sc := scopeAt 66) (by decide +kernel)) (lcok (fun k hk s' H' C cl fp => tg_name 7 sc66.nd (by decide)) (fun k hk s' H' C cl fp => ?_)) ?_)) ⟨?_, _, _, rfl⟩ ?_)
        · rw [hll] at hk
          refine te_addS (te_var 6) (te_d (te_var 7) ?_) ?_
          · rw [let_at hk, List.getD_eq_getElem?_getD, List.getElem?_eq_getElem hk]
            rfl
          · rw [hwl]
            show j + 1 ≤ _
            omega
        · rw [hll]
          unfold extW
          rw [List.map_map]
          exact took_map (fun c => PyData.str (w ++ sgn c)) 0 i.cs (fun _ => true) (fun k => .str (w ++ sgn (i.cs.getD k 0))) (fun _ _ => rfl) (fun _ _ => rfl)
        · show [oL K _] = [oL K _]
          rw [took_succ' _ _ hq, List.flatMap_append, hw, ← List.map_append]
          simp
        · have h1 : (((lastT i.cs j).take q).flatMap (extW i.cs)).length ≤ (lastT i.cs j).length * i.cs.length := by
            rw [flatMap_len (extW i.cs) i.cs.length (fun x => List.length_map ..), List.length_take]
            exact Nat.mul_le_mul_right _ (Nat.min_le_right _ _)
          have h2 : (lastT i.cs j).length * i.cs.length ≤ 64 * 4 := Nat.mul_le_mul l64 p4
          have h3 : (extW i.cs w).length = i.cs.length := List.length_map ..
          rw [List.length_map, List.length_map]
          omega
end
end K14
/-! MH: the drawing dict is made. -/
namespace K14
open PySem PySem.Spec PyProof.Rows L2
/-! ### a dict with text keys, hidden while its values are reckoned -/
def OwnK (Ds : List Addr) (H : Hp) : Prop := ∀ D ∈ Ds, ∃ kvs, H D = some (.dK kvs)
section
variable {X : Cx} {pins : List (Addr × Obj)} {σ σ' : L2.St} {H H' : Hp} {s s' : Shared} {Ds : List Addr}
theorem OwnK.not {b : Addr} {u : Option HO} (own : OwnK Ds H) (h : H b = u) (n : ∀ kvs, u ≠ some (.dK kvs)) : b ∉ Ds := fun m => by
  obtain ⟨xs, e⟩ := own b m
  exact n xs (h.symm.trans e)
theorem ownK_obj (I : Inv X pins σ H s) (own : OwnK Ds H) {D : Addr} (hD : D ∈ Ds) : ∃ o, s.heap.get? D = some o ∧ ∀ v, o.data ≠ .cell v := by
  obtain ⟨kvs, e⟩ := own D hD
  obtain ⟨_, _, vs, _, o, es, ep, ho, _, hd, _⟩ := (show ObjOk X.prog X.w H s.heap D (.dK kvs) from I.hok D _ e)
  exact ⟨o, ho, fun v z => by rw [hd] at z; cases z⟩
theorem invK_hide (I : Inv X pins σ H s) (own : OwnK Ds H) : Inv X (pinsAt Ds s.heap ++ pins) σ (K14.hide Ds H) s := by
  refine ⟨I.ok, I.os, I.bare, ⟨I.base.keep, I.base.slot, fun b o e n hx => ?_, I.base.there, fun b xs e => ?_, fun b o u e => ?_, fun b ps e => ?_⟩, I.loc, I.cell, ?_, fun x c e => ?_, fun p hp => ?_, fun a u e => ?_, I.len⟩
  · by_cases h : b ∈ Ds
    · exact hide_in h
    · rw [hide_out h]
      exact I.base.free b o e n hx
  · have q := I.base.tups b xs e
    rw [hide_out (own.not q fun _ z => by cases z)]
    exact q
  · have q := I.base.frzs b o u e
    rw [hide_out (own.not q fun _ z => by cases z)]
    exact q
  · obtain ⟨more, q⟩ := I.base.tbls b ps e
    exact ⟨more, by rw [hide_out (own.not q fun _ z => by cases z)]; exact q⟩
  · rw [hide_out (own.not I.free fun _ z => by cases z)]
    exact I.free
  · rw [hide_out (own.not (I.freeC x c e) fun _ z => by cases z)]
    exact I.freeC x c e
  · have old : p ∈ X.pn ++ pins → s.heap.get? p.1 = some p.2 ∧ K14.hide Ds H p.1 = none ∧ p.1 ≠ X.env.locals ∧ p.1 ∉ X.fs ∧ ∀ v, p.2.data ≠ .cell v := fun hm => by
      obtain ⟨h1, h2, h3⟩ := I.pin p hm
      exact ⟨h1, by rw [hide_out (own.not h2 fun _ z => by cases z)]; exact h2, h3⟩
    rcases List.mem_append.mp hp with hm | hm
    · exact old (List.mem_append_left _ hm)
    · rcases List.mem_append.mp hm with hm | hm
      · obtain ⟨h1, h2⟩ := pinsAt_mem hm
        obtain ⟨u, q⟩ := own _ h1
        obtain ⟨o, ho, nc⟩ := ownK_obj I own h1
        rw [h2] at ho
        refine ⟨h2, hide_in h1, fun z => ?_, fun z => ?_, fun v z => ?_⟩
        · have f := I.free
          rw [← z, q] at f
          cases f
        · have f := inv_fsFree I _ z
          rw [q] at f
          cases f
        · rw [Option.some.inj ho] at z
          exact nc v z
      · exact old (List.mem_append_right _ hm)
  · have h : a ∉ Ds := fun m => by rw [hide_in m] at e; cases e
    rw [hide_out h] at e
    refine (I.hok a u e).stay (fun _ _ _ q => q) (fun b q => ?_) fun b xs q => ?_
    · rw [hide_out (own.not q fun _ z => by cases z)]
      exact q
    · rw [hide_out (own.not q fun _ z => by cases z)]
      exact q
theorem invK_shown (I : Inv X pins σ H s) (own : OwnK Ds H) (J : Inv X (pinsAt Ds s.heap ++ pins) σ' H' s') : (∀ D ∈ Ds, H' D = none) ∧ Inv X pins σ' (showH Ds H H') s' := by
  have at_ : ∀ D ∈ Ds, ∃ o u, s.heap.get? D = some o ∧ s'.heap.get? D = some o ∧ H' D = none ∧ H D = some u := fun D hD => by
    obtain ⟨u, q⟩ := own D hD
    obtain ⟨o, ho, _⟩ := ownK_obj I own hD
    obtain ⟨h1, h2, _⟩ := J.pin (D, o) (List.mem_append_right _ (List.mem_append_left _ (mem_pinsAt hD ho)))
    exact ⟨o, _, ho, h1, h2, q⟩
  have none_ : ∀ D ∈ Ds, H' D = none := fun D hD => by
    obtain ⟨_, _, _, _, h, _⟩ := at_ D hD
    exact h
  have out : ∀ b u, H' b = some u → b ∉ Ds := fun b u e m => by
    rw [none_ b m] at e
    cases e
  refine ⟨none_, J.ok, J.os, J.bare, ⟨J.base.keep, J.base.slot, fun b o e n hx => ?_, J.base.there, fun b xs e => ?_, fun b o u e => ?_, fun b ps e => ?_⟩, J.loc, J.cell, ?_, fun x c e => ?_, fun p hp => ?_, fun a u e => ?_, J.len⟩
  · have q := I.base.free b o e n hx
    rw [show_out (own.not q fun _ z => by cases z)]
    exact J.base.free b o e n hx
  · have q := J.base.tups b xs e
    rw [show_out (out b _ q)]
    exact q
  · have q := J.base.frzs b o u e
    rw [show_out (out b _ q)]
    exact q
  · obtain ⟨more, q⟩ := J.base.tbls b ps e
    exact ⟨more, by rw [show_out (out b _ q)]; exact q⟩
  · rw [show_out (own.not I.free fun _ z => by cases z)]
    exact J.free
  · rw [show_out (own.not (I.freeC x c e) fun _ z => by cases z)]
    exact J.freeC x c e
  · have hp' : p ∈ X.pn ++ (pinsAt Ds s.heap ++ pins) := by
      rcases List.mem_append.mp hp with m | m
      · exact List.mem_append_left _ m
      · exact List.mem_append_right _ (List.mem_append_right _ m)
    obtain ⟨h1, h2, h3⟩ := J.pin p hp'
    obtain ⟨_, g2, _⟩ := I.pin p hp
    exact ⟨h1, by rw [show_out (own.not g2 fun _ z => by cases z)]; exact h2, h3⟩
  · by_cases h : a ∈ Ds
    · rw [show_in h] at e
      obtain ⟨o, u', e1, e2, _, e4⟩ := at_ a h
      obtain ⟨kvs, e5⟩ := own a h
      rw [e5] at e
      cases e
      obtain ⟨z, y, ys, r, ob, es, ep, ho, d⟩ := (show ObjOk X.prog X.w H s.heap a (.dK kvs) from I.hok a _ e5)
      rw [e1] at ho
      exact ⟨z, y, ys, r, ob, es, ep, by rw [e2]; exact ho, d⟩
    · rw [show_out h] at e
      refine (J.hok a u e).stay (fun _ _ _ q => q) (fun b q => ?_) fun b xs q => ?_
      · rw [show_out (out b _ q)]
        exact q
      · rw [show_out (out b _ q)]
        exact q
variable {e : Expr} {ρ : Rho} {T : Ty}
def kT (ρ : Rho) (T : Ty) : TE := fun σ H Q => ∃ p, OwnK [p] H ∧ EnvT (K14.hide [p] H) σ ρ ∧ ∀ v H', Gr (K14.hide [p] H) (K14.hide [p] H') → H' p = H p → T.p (K14.hide [p] H') v → Q v H'
theorem pe_frameK (h : PE X e (tT ρ T)) : PE X e (kT ρ T) := ⟨fun pins s σ H Q I ⟨p, own, hE, k⟩ => thn (h.run _ s σ _ (fun v H1 => Gr (K14.hide [p] H) H1 ∧ T.p H1 v) (invK_hide I own) ⟨hE, fun v H1 g p => ⟨g, p⟩⟩) fun u s' ⟨v, H1, J, r, g, hp⟩ => by
  obtain ⟨n, J'⟩ := invK_shown I own J
  exact ⟨v, _, J', r, k v _ (by rw [hide_show n]; exact g) (show_in (List.mem_singleton.mpr rfl)) (by rw [hide_show n]; exact hp)⟩⟩
end
/-! ### feed -/
/-- the script -/
def tyScr (K : PySem.W.Frag) (ns : List Int) : Ty := ⟨fun H v => (∃ a, v = .ref a ∧ SqL K H a (ns.map V.int)) ∧ LamX.Tabs tabsT H, fun e ⟨⟨a, h1, h2⟩, h3⟩ => ⟨⟨a, h1, e.l h2⟩, e.tab h3⟩⟩
structure ScIx where
  ns : List Int
  big : ∀ z ∈ ns, z.natAbs < 2 ^ 1048576
section
variable {P : Program} {w : World} {K : PySem.W.Frag} {mg : Str → Option Value} {base : Heap} {f : Addr} {fd : FuncData}
abbrev CFeed (P : Program) (w : World) (K : PySem.W.Frag) (mg : Str → Option Value) (base : Heap) : Prop := Cal P w K mg base 1 "_law_feed" (fun i : ScIx => [tyScr K i.ns]) (fun _ => tyFeed)
abbrev fdN : List Str := ["_law_script", "_law_cell"]
theorem sc56 : FnScope fdN ["_law_script"] (scopeAt 56) := ⟨rfl, rfl, rfl, by decide +kernel, rfl, by decide +kernel, by decide +kernel⟩
theorem te_feedNew {X : Cx} {ρ : Rho} {ns ms : List Int} {e : Expr} {pos p1 p2 p3 p4 q2 q3 q4 : Pos} {j1 j2 j3 j4 k2 k3 k4} (hs : ρ[0]? = some (some (tyScr X.K ns))) (he : PE X e (tT ρ (tyTL X.K (ms.map .int)))) (hl : ms.length ≤ 63) (hb : ∀ z ∈ ms, z.natAbs < 2 ^ 1048576) :
    PE X (.Dict [some (.Constant (.str "cells") j1 p1), some (.Constant (.str "next") j2 p2), some (.Constant (.str "rest") j3 p3), some (.Constant (.str "count") j4 p4)] [e, .Constant (.int 0) k2 q2, .Constant (.int 0) k3 q3, .Constant (.int 0) k4 q4] pos) (tT ρ tyFeed) :=
  pe_weak (pe_disp (pps_cons pe_str (pe_frameK he) (pps_cons pe_str pe_int (pps_cons pe_str pe_int (pps_cons pe_str pe_int pps_nil)))) rfl rfl (by intro h; cases h) (by show 4 ≤ 15; decide)) fun σ H Q q p hn => by
    have hh : ∀ o, K14.hide [p] (upd H p o) = H := fun o => by
      rw [hide_upd (List.mem_singleton.mpr rfl)]
      funext b
      by_cases hb : b ∈ [p]
      · rw [hide_in hb, List.mem_singleton.mp hb, hn]
      · rw [hide_out hb]
    refine ⟨p, fun D hD => ⟨[], by rw [List.mem_singleton.mp hD]; exact upd_same⟩, by rw [hh]; exact q.1, fun v H1 g own hv => ?_⟩
    rw [hh] at g
    obtain ⟨cl, xs, rfl, h1, h2⟩ := hv
    rw [upd_same] at own
    refine ⟨own, [(Sum.inr "cells", .ref cl), (Sum.inr "next", .int 0), (Sum.inr "rest", .int 0), (Sum.inr "count", .int 0)], rfl, by show 4 ≤ 15; decide, ?_⟩
    have ncl : cl ≠ p := fun z => by
      rw [z, hide_in (List.mem_singleton.mpr rfl)] at h1
      cases h1
    have s2 : Same (K14.hide [p] H1) (upd H1 p (.dK (mergeK [] [(Sum.inr "cells", .ref cl), (Sum.inr "next", .int 0), (Sum.inr "rest", .int 0), (Sum.inr "count", .int 0)]))) := fun b o e => by
      by_cases hb : b = p
      · rw [hb, hide_in (List.mem_singleton.mpr rfl)] at e
        cases e
      · rw [hide_out (fun z => hb (List.mem_singleton.mp z))] at e
        rw [upd_ne hb]
        exact e
    have g2 := g.trans (.same s2)
    refine q.2 _ _ g2 ⟨⟨p, cl, rfl, ms, 0, 0, 0, upd_same, ?_, hl, by decide, by decide, ?_, hb⟩, ?_⟩
    · have e1 : xs = ms.map V.int := by
        have : ∀ (ms : List Int) (xs : List V), DpAll X.K (K14.hide [p] H1) xs (ms.map PyData.int) → xs = ms.map V.int := fun ms => by
          induction ms with
          | nil => intro xs h; cases h; rfl
          | cons m ms ih =>
            intro xs h
            cases h with
            | cons a b => rw [Dp.int_ a, ih _ b]; rfl
        exact this ms xs h2
      rw [← e1]
      exact s2 cl _ h1
    · exact Nat.two_pow_pos _
    · obtain ⟨x, _, hx⟩ := q.1.get hs
      exact g2.tab hx.2
theorem ok_law_feed (F : DefAt K "_law_feed" 56 f fd) (hm : mg "_law_feed" = some (.ref f)) (B : Free mg) : CFeed P w K mg base := by
  refine cal_of F hm sc56 (fun kV doc pm an cdv ct us hl => ?_) (fun _ => rfl) fun i cdv A outer s H E hr => ?_
  · match us, hl with
    | [a], _ => rfl
  · obtain ⟨ns, big⟩ := i
    have e63 : cutL (ns.map PyData.int) none (some ((63 : Nat) : Int)) = (ns.take 63).map .int := by rw [cutL_to, List.map_take]
    have l63 : (ns.take 63).length ≤ 63 := by rw [List.length_take]; exact Nat.min_le_left _ _
    have hl1 : ((ns.take 63).map PyData.int).length = (ns.take 63).length := List.length_map ..
    refine ts_one (ts_ret (te_feedNew (ms := ns.take 63) rfl ?_ l63 fun z hz => big z (List.mem_of_mem_take hz)))
    refine te_lcD (n := ((ns.take 63).map PyData.int).length) (item := itD K ((ns.take 63).map PyData.int)) (p := fun _ => true) (el := fun j => .int ((ns.take 63).getD j 0)) (nxt := fun j => _) [("_law_cell", 1)] rfl sc56.nd (ti_list (te_le (te_sl (T := tyTL K ((ns.take 63).map .int)) (A := tyScr K ns) sl_list (te_var 0) to_none (to_some (te_int (i := 63))) fun x H Q hx k => ?_) tyTL_le)) (by omega) (blkOk_by (N := fdN) (sc := scopeAt 56) (by decide +kernel))
      (lcok (fun j hj s' H' C cl fp => tg_name 1 sc56.nd (by decide)) (fun j hj s' H' C cl fp => ?_)) ?_
    · obtain ⟨⟨p, rfl, h1⟩, _⟩ := hx
      refine ⟨p, _, rfl, h1, fun q hq => k _ _ (Gr.new hq) ⟨q, _, rfl, upd_same, ?_⟩⟩
      have := DpAll.cut (dp_ints (K := K) (H := upd H q (.lst (cutV (ns.map V.int) none (some 63)))) ns) none (some 63)
      rw [show cutL (ns.map PyData.int) none (some 63) = (ns.take 63).map .int from e63] at this
      exact this
    · rw [hl1] at hj
      refine te_int1 B.int (te_d (te_var 1) ?_)
      rw [getD_map PyData.int .none _ j hj, List.getD_eq_getElem?_getD, List.getElem?_eq_getElem hj]
      rfl
    · rw [hl1]
      exact took_map (fun c => PyData.int c) 0 (ns.take 63) (fun _ => true) (fun k => .int ((ns.take 63).getD k 0)) (fun _ _ => rfl) (fun _ _ => rfl)
end
end K14
/-! MI: more of own lists. -/
namespace K14
open PySem PySem.Spec PyProof.Rows L2
theorem thaw_ex {ι : Type} {P : ι → Prop} {T : ι → Ty} (h : ∀ z, P z → Thaw (T z)) : Thaw (tyEx P T) := fun As H v own ⟨z, hz, hv⟩ => ⟨z, hz, h z hz As H v own hv⟩
theorem hide_new2 {H : Hp} {A B : Addr} {o : HO} (h : H B = none) : hide [A, B] (upd H B o) = hide [A] H := by
  funext b
  by_cases h1 : b = A
  · rw [hide_in (by rw [h1]; exact List.mem_cons_self), hide_in (by rw [h1]; exact List.mem_cons_self)]
  · by_cases h2 : b = B
    · rw [hide_in (by rw [h2]; exact List.mem_cons_of_mem _ List.mem_cons_self), hide_out (by rw [List.mem_singleton]; exact h1), h2, h]
    · rw [hide_out (fun z => by rcases List.mem_cons.mp z with z | z; exact h1 z; exact h2 (List.mem_singleton.mp z)), hide_out (by rw [List.mem_singleton]; exact h1), upd_ne h2]
section
variable {X : Cx} {As : List Addr} {ts : List OTy} {ρ ρ' : Rho} {T U : Ty} {e a b c : Expr} {pos p : Pos} {D : OEnds} {DT : TEnds} {rest body orelse : List Stmt}
theorem os_open {ι : Type} {P : ι → Prop} {Ti : ι → Ty} {sts : List Stmt} (i : Nat) (hi : ρ[i]? = some (some (tyEx P Ti))) (h : ∀ z, P z → PSs X sts (oS As ts (ρ.set i (some (Ti z))) D)) : PSs X sts (oS As ts ρ D) :=
  pss_weak (pss_some (P := P) (t := fun z => oS As ts (ρ.set i (some (Ti z))) D) fun z hz => h z hz) fun D0 σ H q => by
    obtain ⟨x, h1, z, hz, h2⟩ := q.1.env.get hi
    refine ⟨z, hz, ⟨q.1.nd, q.1.held, ?_⟩, q.2⟩
    have e : σ.set i (some x) = σ := by
      obtain ⟨hl, h3⟩ := List.getElem?_eq_some_iff.mp h1
      rw [← h3]
      exact List.set_getElem_self ..
    have := q.1.env.set h2 i
    rw [e] at this
    exact this
def oTU (As : List Addr) (ts : List OTy) (ρ : Rho) : TT := fun σ H Q => OSt As ts ρ σ H ∧ ∀ b H', Beh As H H' → Q b H'
theorem ot_frameU (h : PT X e (tTU ρ)) : PT X e (oTU As ts ρ) := ⟨fun pins s σ H Q I ⟨q, k⟩ => thn (h.run _ s σ _ (fun c H1 => Gr (K14.hide As H) H1) (inv_hide I q.held.own) ⟨q.env, fun b H1 g => g⟩) fun u s' h => by
  obtain ⟨H1, J, g⟩ := h
  obtain ⟨n, J'⟩ := inv_shown I q.held.own J g
  exact ⟨_, J', k _ _ (beh_of n g)⟩⟩
theorem os_ifU (hc : PT X c (oTU As ts ρ)) (h1 : PSs X body (oS As ts ρ D)) (h2 : PSs X orelse (oS As ts ρ D)) : PS X (.If c body orelse pos) (oS As ts ρ D) :=
  ps_weak (ps_if hc h1 h2) fun D0 σ H q => ⟨q.1, fun b H1 g => by
    cases b with
    | true => exact iteT ⟨q.1.beh g, q.2.mono g.gr⟩
    | false => exact iteF ⟨q.1.beh g, q.2.mono g.gr⟩⟩
/-- a pair of drawn texts -/
theorem te_pairX {x1} {P Q : Str → Prop} (ha : PE X a (tT ρ (tyEx P fun z => tyD X.K (.str z)))) (hb : PE X b (tT ρ (tyEx Q fun z => tyD X.K (.str z)))) (hs : starEach [a, b] X.env = (false, eval a X.env) :: starEach [b] X.env := by rfl) (hs2 : starEach [b] X.env = [(false, eval b X.env)] := by rfl) :
    PE X (.Tuple [a, b] x1 pos) (tT ρ (tyEx (fun p : Rule => P p.1 ∧ Q p.2) fun p => tyD X.K (pairD p))) :=
  pe_weak (pe_tup (ta_cons ha (ta_one hb hs2) hs)) fun σ H Q' q => ⟨q.1, fun vs H1 e1 hv => by
    match vs, hv with
    | [u, v], hv =>
      obtain ⟨⟨x, hx, h1⟩, ⟨y, hy, h2⟩, _⟩ := hv
      exact ⟨by show 2 ≤ sizeLine; rw [sizeLine_eq]; omega, fun p hp => q.2 _ _ (e1.trans (.new hp)) ⟨(x, y), ⟨hx, hy⟩, Dp.tupP rfl upd_same (.cons (Gr.dp (.new hp) _ _ h1) (.cons (Gr.dp (.new hp) _ _ h2) .nil))⟩⟩⟩
/-- l[::-1] -/
theorem te_revL {k : Nat} {p1 p2 p3 : Pos} {ds : List PyData} (he : PE X e (tT ρ (tyD X.K (.list ds)))) : PE X (.Subscript e (.Slice none none (some (.UnaryOp .USub (.Constant (.int 1) k p1) p2)) p3) pos) (tT ρ (tyTL X.K ds.reverse)) := pe_weak (pe_revL he) fun σ H Q q =>
  ⟨q.1, fun v H1 e1 hv => by
    obtain ⟨a, xs, rfl, h1, h2⟩ := Dp.lst_ hv
    refine ⟨a, xs, rfl, .of h1, fun p hp => q.2 _ _ (e1.trans (.new hp)) ⟨p, _, rfl, upd_same, ?_⟩⟩
    have rev : ∀ (ds : List PyData) (xs : List V), DpAll X.K (upd H1 p (.lst xs.reverse)) xs ds → DpAll X.K (upd H1 p (.lst xs.reverse)) xs.reverse ds.reverse := fun ds xs => by
      generalize upd H1 p (.lst xs.reverse) = G
      induction ds generalizing xs with
      | nil => intro h; cases h; exact .nil
      | cons d ds ih =>
        intro h
        cases h with
        | cons g1 g2 =>
          rw [List.reverse_cons, List.reverse_cons]
          exact (ih _ g2).app (.cons g1 .nil)
    exact rev ds xs (Gr.dpAll (.new hp) _ _ h2)⟩
/-- list(t), anew -/
theorem ne_listT {ds : List PyData} (hm : X.mg "list" = none) (ha : PE X a (tT ρ (tyD X.K (.tuple ds)))) (hg : Gl X "list" := by rfl) (hs : starEach [a] X.env = [(false, eval a X.env)] := by rfl) : PE X (.Call (.Name "list" p) [a] [] pos) (nT ρ (oL X.K ds)) :=
  pe_weak (pe_callTy call_list_of hg hm PyProof.Rows.boot_list (ta_one ha hs) (by decide) (by decide) (by rw [hs]; rfl) (by rfl)) fun σ H Q q => ⟨q.1, fun vs H1 e1 hv => by
    match vs, hv with
    | [v], hv =>
      obtain ⟨r, xs, rfl, h1, h2⟩ := Dp.tup_ hv.1
      exact ⟨r, xs, rfl, .inr h1.sq, fun l hl => q.2 l _ (by rw [hide_new1 hl]; exact e1) ⟨_, upd_same, xs, rfl, by rw [hide_new1 hl]; exact h2⟩⟩⟩
/-- x, y, z = (a list anew), [], e -/
theorem os_par3 {i j l : Nat} {x y z : Str} {px py pz pt pl : Pos} {kt k2 pt2} {ds : List PyData} (ha : PE X a (nT ρ (oL X.K ds))) (hcc : PE X c (tT ρ T)) (h : ∀ A B, PSs X rest (oS [A, B] [oL X.K ds, oL X.K []] (((ρ.set i (some (tyV (.ref A)))).set j (some (tyV (.ref B)))).set l (some T)) (ofD DT)))
    (hc : X.calm = true) (hN : X.N.Nodup) (hi : X.N[i]? = some x := by rfl) (hj : X.N[j]? = some y := by rfl) (hl : X.N[l]? = some z := by rfl)
    (hij : i ≠ j := by decide) (hil : i ≠ l := by decide) (hjl : j ≠ l := by decide)
    (hx : X.env.scope.names.lookup x = some .local := by rfl) (hy : X.env.scope.names.lookup y = some .local := by rfl) (hz : X.env.scope.names.lookup z = some .local := by rfl)
    (hw : swappedStores [.Tuple [.Name x px, .Name y py, .Name z pz] kt pt] (.Tuple [a, .List [] pl, c] k2 pt2) X.env = pure (some [x, y, z]) := by rfl)
    (hs : swapsWithSole [.Tuple [.Name x px, .Name y py, .Name z pz] kt pt] (.Tuple [a, .List [] pl, c] k2 pt2) pos.line X.env = pure false := by rfl)
    (h1 : starEach [a, .List [] pl, c] X.env = (false, eval a X.env) :: starEach [.List [] pl, c] X.env := by rfl) (h2 : starEach [.List [] pl, c] X.env = (false, eval (.List [] pl) X.env) :: starEach [c] X.env := by rfl) (h3 : starEach [c] X.env = (false, eval c X.env) :: starEach [] X.env := by rfl) :
    PSs X (.Assign [.Tuple [.Name x px, .Name y py, .Name z pz] kt pt] (.Tuple [a, .List [] pl, c] k2 pt2) pos :: rest) (tS ρ DT) :=
  pss_weak (pss_cons (ps_par3 hc hN hi hj hl hij hil hjl hx hy hz (pa_cons ha (pa_cons (pe_lst pa_nil) (pa_cons (pe_frame hcc) pa_nil h3) h2) h1) hw hs)
    (pss_some (P := fun _ => True) (t := fun AB : Addr × Addr => oS [AB.1, AB.2] [oL X.K ds, oL X.K []] (((ρ.set i (some (tyV (.ref AB.1)))).set j (some (tyV (.ref AB.2)))).set l (some T)) (ofD DT)) fun AB _ => h AB.1 AB.2)) fun D0 σ H q => by
    refine ⟨q.1, fun A H1 g1 ⟨o, ho, xs, eo, hxs⟩ => ⟨Nat.zero_le _, fun B hB => ?_⟩⟩
    subst eo
    have nAB : A ≠ B := fun z => by rw [z, hB] at ho; cases ho
    have own : Own [A, B] (upd H1 B (.lst [])) := fun D hD => by
      rcases List.mem_cons.mp hD with e | hD
      · exact .inl ⟨xs, by rw [e, upd_ne nAB]; exact ho⟩
      · exact .inl ⟨[], by rw [List.mem_singleton.mp hD]; exact upd_same⟩
    have hh : hide [A, B] (upd H1 B (.lst [])) = hide [A] H1 := hide_new2 hB
    refine ⟨[A, B], own, by rw [hh]; exact q.1.mono g1, fun v H2 b hv => ⟨_, _, _, rfl, (A, B), True.intro, ?_⟩⟩
    have gg : Gr H (hide [A, B] H2) := g1.trans (hh ▸ b.gr)
    have hA : H2 A = some (.lst xs) := by rw [b.own A List.mem_cons_self, upd_ne nAB]; exact ho
    have hB2 : H2 B = some (.lst []) := by rw [b.own B (List.mem_cons_of_mem _ List.mem_cons_self)]; exact upd_same
    refine ⟨⟨List.nodup_cons.mpr ⟨fun z => nAB (List.mem_singleton.mp z), List.nodup_cons.mpr ⟨List.not_mem_nil, List.nodup_nil⟩⟩, ⟨⟨_, hA, xs, rfl, Gr.dpAll (hh ▸ b.gr) _ _ hxs⟩, ⟨_, hB2, [], rfl, .nil⟩, True.intro⟩, ?_⟩, ?_⟩
    · exact ((((q.1.mono gg).set (T := tyV (.ref A)) rfl i).set (T := tyV (.ref B)) rfl j).set hv l)
    · have sm : Gr H H2 := gg.trans (.same hide_same)
      exact ⟨fun t r s h a b c => q.2.nx r s h a (b.env.mono (.same hide_same)) ((gg.trans c).trans (.same hide_same)), fun r s h a b c => q.2.nx r s h a b ((gg.trans c).trans (.same hide_same)), fun v h c a => q.2.rt v h ((gg.trans c).trans (.same hide_same)) a,
        fun t r s h a b c => q.2.bk r s h a (b.env.mono (.same hide_same)) ((gg.trans c).trans (.same hide_same)), fun t r s h a b c => q.2.ct r s h a (b.env.mono (.same hide_same)) ((gg.trans c).trans (.same hide_same))⟩
end
end K14
/-! MJ: the law's rules. -/
namespace K14
open PySem PySem.Spec PyProof.Rows L2
theorem let_c {A B : Prop} (f : A → B) (a : A) : B := f a
structure OfCs (cs : List Nat) (z : Str) : Prop where
  of : ∀ c ∈ z.cps.toList, c ∈ cs
  ne : z ≠ ""
  len : z.length ≤ 8
structure RsOk (cs : List Nat) (rs : List Rule) : Prop where
  nd : rs.Nodup
  each : ∀ p ∈ rs, OfCs cs p.1 ∧ OfCs cs p.2
  len : rs.length ≤ 6
theorem OfCs.word {cs : List Nat} {z : Str} (h : OfCs cs z) : WordOf cs z := ⟨h.of, Nat.le_trans h.len (by decide)⟩
theorem RsOk.rule {cs : List Nat} {rs : List Rule} (h : RsOk cs rs) : ∀ p ∈ rs, RuleOf cs p := fun p hp => ⟨(h.each p hp).1.word, (h.each p hp).2.word, (h.each p hp).1.ne, (h.each p hp).2.ne⟩
def turnR (r : Nat) (rs : List Rule) : List Rule := if r = 0 then rs else if r = 1 then rs.reverse else rs.drop (rs.length / 2) ++ rs.take (rs.length / 2)
theorem turnR_perm (r : Nat) (rs : List Rule) : (turnR r rs).Perm rs := by
  unfold turnR
  split
  · exact .rfl
  · split
    · exact rs.reverse_perm
    · refine List.perm_append_comm.trans ?_
      rw [List.take_append_drop]
theorem RsOk.turn {cs : List Nat} {rs : List Rule} (h : RsOk cs rs) (r : Nat) : RsOk cs (turnR r rs) := by
  have p := turnR_perm r rs
  exact ⟨p.nodup_iff.mpr h.nd, fun q hq => h.each q (p.mem_iff.mp hq), by rw [p.length_eq]; exact h.len⟩
def tyMany (K : PySem.W.Frag) : Ty := tyEx (fun n : Nat => n ≤ 6) (fun n => tyD K (.int (n : Nat)))
def tyRules (K : PySem.W.Frag) (cs : List Nat) : Ty := tyEx (RsOk cs) (fun rs => tyD K (rulesD rs))
section
variable {P : Program} {w : World} {K : PySem.W.Frag} {mg : Str → Option Value} {base : Heap} {f : Addr} {fd : FuncData}
abbrev CLRules (P : Program) (w : World) (K : PySem.W.Frag) (mg : Str → Option Value) (base : Heap) : Prop := Cal P w K mg base 4 "_law_rules" (fun i : { cs : List Nat // LetOk cs } => [tyFeed, tyD K (letD i.1), tyMany K, tyD K (.int 8)]) (fun i => tyRules K i.1)
abbrev ruN : List Str := ["_law_feed_here", "_law_signs", "_law_many", "_law_most", "_law_pool", "_law_made", "_law_way", "_law_lap", "_law_pair", "_law_turn"]
theorem sc61 : FnScope ruN ["_law_feed_here", "_law_signs", "_law_many", "_law_most"] (scopeAt 61) := ⟨rfl, rfl, rfl, by decide +kernel, rfl, by decide +kernel, by decide +kernel⟩
def tyPr (K : PySem.W.Frag) (cs : List Nat) : Ty := tyEx (fun p : Rule => OfCs cs p.1 ∧ OfCs cs p.2) fun p => tyD K (pairD p)
theorem thaw_pr {cs : List Nat} : Thaw (tyPr K cs) := thaw_ex fun p _ => thaw_D rfl
theorem ok_law_rules (F : DefAt K "_law_rules" 61 f fd) (hm : mg "_law_rules" = some (.ref f)) (B : Free mg) (c57 : CDraw P w K mg base) (c58 : CPick P w K mg base) (c60 : CPiece P w K mg base) : CLRules P w K mg base := by
  refine cal_of F hm sc61 (fun kV doc pm an cdv ct us hl => ?_) (fun _ => rfl) fun i cdv A0 outer s H E hr => ?_
  · match us, hl with
    | [a, b, c, d], _ => rfl
  · obtain ⟨cs, L⟩ := i
    have hu := units65 hr
    have cl := L.len
    refine ts_open 2 rfl fun n hn => ?_
    refine os_par3 (i := 4) (j := 5) (l := 6) (ds := (cs.map sgn).map .str) (T := tyLt K 4) (ne_listT B.list (te_var 1 (T := tyD K (letD cs)))) (te_fn (i := DrIx.mk 4 (by decide) (by decide)) c57 (hr.mono (by decide)) (ta_cons (te_var 0) (ta_one te_int rfl))) (fun A B' => ?_) rfl sc61.nd
    let rho := fun (x y z : Option Ty) => ([some tyFeed, some (tyD K (letD cs)), some (tyD K (.int (n : Nat))), some (tyD K (.int 8)), some (tyV (.ref A)), some (tyV (.ref B')), some (tyLt K 4), x, y, z] : Rho)
    refine os_cons (os_for (n := n) (item := fun j => tyD K (.int (j : Nat))) (vs := [7]) (fun j ts' ρ' => ∃ (ys : List Str) (rs : List Rule) (x y : Option Ty), ts' = [oL K (ys.map .str), oL K (rs.map pairD)] ∧ ρ' = rho x y none ∧ (∀ y ∈ ys, OfCs cs y) ∧ ys ≠ [] ∧ ys.length ≤ 26 + j ∧ rs.Nodup ∧ (∀ p ∈ rs, OfCs cs p.1 ∧ OfCs cs p.2) ∧ rs.length ≤ j) (fun j ρ' => ρ'.set 7 (some (tyD K (.int (j : Nat)))))
      PassesOwn.never rfl ?_ ⟨cs.map sgn, [], none, none, rfl, rfl, ?_, ?_, ?_, List.nodup_nil, fun p h => absurd h List.not_mem_nil, Nat.le_refl _⟩ (fun ts' ρ' ⟨ys, rs, x, y, e1, e2, h1, h2, h3, h4, h5, h6⟩ => ?_) (fun j ts' ρ' hj _ => tg_name 7 sc61.nd (by decide)) fun j ts' ρ' hj ⟨ys, rs, x, y, e1, e2, h1, h2, h3, h4, h5, h6⟩ => ?_)
    · exact pi_congr (ti_range (m := ((n : Nat) : Int)) B.range (te_var 2) ⟨by omega, by omega⟩) (by omega) fun _ _ => rfl
    · intro y hy
      obtain ⟨c, hc, e⟩ := List.mem_map.mp hy
      subst e
      exact ⟨fun d hd => by rw [List.mem_singleton.mp hd]; exact hc, sgn_ne c, by show 1 ≤ 8; decide⟩
    · simpa using L.ne
    · rw [List.length_map]
      omega
    · subst e1 e2
      have hl2 : (rs.map pairD).length = rs.length := List.length_map ..
      have e8 : lenD (.list (rs.map pairD)) = some rs.length := congrArg some hl2
      refine os_cons (os_set 9 (T := tyLt K 3) (oe_frame (te_fn (i := DrIx.mk 3 (by decide) (by decide)) c57 (hr.mono (by decide)) (ta_cons (te_var 0) (ta_one te_int rfl)))) ?_ sc61.nd)
      refine os_open 9 rfl fun r hr3 => ?_
      have half : ∀ {X : Cx} {ρ : Rho} {e : Expr} {j} {p1 p2 : Pos}, PE X e (tT ρ (dI X (rs.length : Nat))) → PE X (.BinOp e .FloorDiv (.Constant (.int 2) j p1) p2) (tT ρ (dI X ((rs.length / 2 : Nat)))) := fun h => te_fdivI h te_int ⟨by decide, by decide⟩
      refine os_one (os_ret (Open.l (ds := rs.map pairD) 5 1 Open.rfl') (te_le (te_tupleL (ds := (turnR r rs).map pairD) B.tuple (te_le (te_ite (c := decide (((r : Nat) : Int) = 0)) (tt_eqI (te_var 9) te_int) (fun h => ?_) fun h => ?_) tyTL_le)) (tyEx_in (P := RsOk cs) (T := fun rs => tyD K (rulesD rs)) (turnR r rs) (RsOk.turn ⟨h4, h5, by omega⟩ r))))
      · have e : turnR r rs = rs := by unfold turnR; rw [if_pos (by have := of_decide_eq_true h; omega)]
        rw [e]
        exact te_var 5
      · refine te_ite (c := decide (((r : Nat) : Int) = 1)) (tt_eqI (te_var 9) te_int) (fun h1 => ?_) fun h1 => ?_
        · have e : turnR r rs = rs.reverse := by unfold turnR; rw [if_neg (by have := of_decide_eq_false h; omega), if_pos (by have := of_decide_eq_true h1; omega)]
          rw [e, List.map_reverse]
          exact te_revL (te_le (te_var 5) tyTL_le)
        · have e : turnR r rs = rs.drop (rs.length / 2) ++ rs.take (rs.length / 2) := by unfold turnR; rw [if_neg (by have := of_decide_eq_false h; omega), if_neg (by have := of_decide_eq_false h1; omega)]
          rw [e, List.map_append, List.map_drop, List.map_take, ← cutL_from, ← cutL_to]
          refine te_addL (te_slL (te_le (te_var 5) tyTL_le) (to_some (half (te_len (d := .list (rs.map pairD)) B.len (te_le (te_var 5) tyTL_le) e8 (by omega)))) to_none) (te_slL (te_le (te_var 5) tyTL_le) to_none (to_some (half (te_len (d := .list (rs.map pairD)) B.len (te_le (te_var 5) tyTL_le) e8 (by omega))))) ?_
          have k1 := cutL_len (rs.map pairD) (some ((rs.length / 2 : Nat) : Int)) none
          have k2 := cutL_len (rs.map pairD) none (some ((rs.length / 2 : Nat) : Int))
          omega
    · subst e1 e2
      have fin : ∀ (ys : List Str) (rs : List Rule) (x y : Option Ty), (∀ y ∈ ys, OfCs cs y) → ys ≠ [] → ys.length ≤ 26 + (j + 1) → rs.Nodup → (∀ p ∈ rs, OfCs cs p.1 ∧ OfCs cs p.2) → rs.length ≤ j + 1 → ∃ (ys' : List Str) (rs' : List Rule) (x' y' : Option Ty), [oL K (ys.map .str), oL K (rs.map pairD)] = [oL K (ys'.map .str), oL K (rs'.map pairD)] ∧ rho x y none = rho x' y' none ∧ (∀ y ∈ ys', OfCs cs y) ∧ ys' ≠ [] ∧ ys'.length ≤ 26 + (j + 1) ∧ rs'.Nodup ∧ (∀ p ∈ rs', OfCs cs p.1 ∧ OfCs cs p.2) ∧ rs'.length ≤ j + 1 := fun ys rs x y a b c d e f => ⟨ys, rs, x, y, rfl, rfl, a, b, c, d, e, f⟩
      have pkn : itemsD (.list (ys.map .str)) ≠ [] := by
        show ys.map PyData.str ≠ []
        simpa using h2
      have pkl : (itemsD (.list (ys.map .str))).length < 1000000 := by
        show (ys.map PyData.str).length < _
        rw [List.length_map]
        omega
      refine os_cons (os_set 8 (T := tyPr K cs) (oe_thaw (Open.l (ds := ys.map .str) 4 0 Open.rfl') (te_le (te_pairX (P := fun z => z ∈ ys) (Q := fun z => z ∈ ys) (te_le (te_fn (i := PkIx.mk (.list (ys.map .str)) pkn pkl) c58 (hr.mono (by decide)) (ta_cons (te_var 0) (ta_one (te_le (te_var 4) tyTL_le) rfl))) tyIn_strs) (te_le (te_fn (i := PkIx.mk (.list (ys.map .str)) pkn pkl) c58 (hr.mono (by decide)) (ta_cons (te_var 0) (ta_one (te_le (te_var 4) tyTL_le) rfl))) tyIn_strs)) (tyEx_map id (fun p hp => ⟨h1 _ hp.1, h1 _ hp.2⟩) fun p _ => Ty.le.rfl)) thaw_pr) ?_ sc61.nd)
      let pcx := PcIx.mk cs 3 L.ne cl (by decide) (by decide)
      have pc8 : ∀ z, PcOk cs 3 z → OfCs cs z := fun z h => ⟨h.of, h.ne, Nat.le_trans h.len (by decide)⟩
      refine let_c (fun cont => os_cons (os_ifU (ot_frameU ?_) (os_one ?_) (os_nil cont))) ?_
      · exact PW.pt (tw_orU (tt_eqU (te_le (te_var 6) lt_I) (te_cI (p := anyI) True.intro)) (tw_or1U (PW.pt (tw_andU (tt_eqU (te_le (te_var 6) lt_I) (te_cI (p := anyI) True.intro)) (tw_and1U (tt_eqU (te_le (te_fn (i := DrIx.mk 3 (by decide) (by decide)) c57 (hr.mono (by decide)) (ta_cons (te_var 0) (ta_one te_int rfl))) lt_I) (te_cI (p := anyI) True.intro)))))))
      · exact os_set 8 (T := tyPr K cs) (oe_frame (te_le (te_pairX (P := PcOk cs 3) (Q := PcOk cs 3) (te_fn (i := pcx) c60 (hr.mono (by decide)) (ta_cons (te_var 0) (ta_cons (te_var 1) (ta_one te_int rfl)))) (te_fn (i := pcx) c60 (hr.mono (by decide)) (ta_cons (te_var 0) (ta_cons (te_var 1) (ta_one te_int rfl))))) (tyEx_map id (fun p hp => ⟨pc8 _ hp.1, pc8 _ hp.2⟩) fun p _ => Ty.le.rfl))) cont sc61.nd
      refine os_open 8 rfl fun p hp => ?_
      have lowc : ∀ z, OfCs cs z → Low z := fun z h c hc => L.low c (h.of c hc)
      have sp : SeqAt.shaped (pairD p) = true := (shD_pair (lowc _ hp.1) (lowc _ hp.2)).shaped
      have sl : SeqAt.shaped (.list (rs.map pairD)) = true := (ShD.lst (n := 1) fun d hd => by
        obtain ⟨q, hq, e⟩ := List.mem_map.mp hd
        exact e ▸ shD_pair (lowc _ (h5 q hq).1) (lowc _ (h5 q hq).2)).shaped
      have p8 := hp.1.len
      have q8 := hp.2.len
      refine os_one (os_if (k := decide (((p.1.length : Nat) : Int) + ((p.2.length : Nat) : Int) ≤ 8) && !inD (rs.map pairD) (pairD p)) (ot_thaw (Open.l (ds := rs.map pairD) 5 1 Open.rfl') (PW.pt (tw_and (tt_le (te_addI (te_len (d := .str p.1) (n := p.1.length) B.len (te_ixT (te_var 8 (T := tyD K (pairD p))) te_int rfl) rfl (by omega)) (te_len (d := .str p.2) (n := p.2.length) B.len (te_ixT (te_var 8 (T := tyD K (pairD p))) te_int rfl) rfl (by omega))) (te_var 3)) fun _ => tw_and1 (tt_notInL hu (te_var 8) (te_le (te_var 5) tyTL_le) sp sl)))) (fun h => ?_) fun _ => os_nil (fin ys rs _ _ h1 h2 (by omega) h4 h5 (by omega)))
      rw [Bool.and_eq_true, inD_pairs] at h
      have hle := of_decide_eq_true h.1
      have hni : p ∉ rs := fun z => by
        have := h.2
        rw [decide_eq_true z] at this
        cases this
      have hlr : (rs.map pairD).length = rs.length := List.length_map ..
      have hly : (ys.map PyData.str).length = ys.length := List.length_map ..
      refine os_cons (os_app 5 1 (ds := rs.map pairD) (d := pairD p) (oe_frame (te_var 8)) ?_ (by omega))
      refine os_one (os_app 4 0 (ds := ys.map .str) (d := .str (p.1 ++ p.2)) (oe_frame (te_addS (te_ixT (te_var 8 (T := tyD K (pairD p))) te_int rfl) (te_ixT (te_var 8 (T := tyD K (pairD p))) te_int rfl) (by omega))) ?_ (by omega))
      have e9 : ([oL K (ys.map .str), oL K (rs.map pairD)].set 1 (oL K (rs.map pairD ++ [pairD p]))).set 0 (oL K (ys.map .str ++ [.str (p.1 ++ p.2)])) = [oL K ((ys ++ [p.1 ++ p.2]).map .str), oL K ((rs ++ [p]).map pairD)] := by
        rw [List.map_append, List.map_append]
        rfl
      have hnew : OfCs cs (p.1 ++ p.2) := ⟨fun c hc => (List.mem_append.mp (str_app _ _ ▸ hc)).elim (hp.1.of c) (hp.2.of c), app_ne hp.1.ne, by rw [str_app_len]; omega⟩
      show ∃ _, _
      refine ⟨ys ++ [p.1 ++ p.2], rs ++ [p], _, _, e9, rfl, fun y hy => ?_, by simp, by rw [List.length_append]; show ys.length + 1 ≤ _; omega, ?_, fun q hq => ?_, by rw [List.length_append]; show rs.length + 1 ≤ _; omega⟩
      · rcases List.mem_append.mp hy with hy | hy
        · exact h1 y hy
        · rw [List.mem_singleton.mp hy]
          exact hnew
      · exact List.nodup_append.mpr ⟨h4, List.nodup_cons.mpr ⟨List.not_mem_nil, List.nodup_nil⟩, fun a ha b hb e => hni (by rw [← List.mem_singleton.mp hb, ← e]; exact ha)⟩
      · rcases List.mem_append.mp hq with hq | hq
        · exact h5 q hq
        · rw [List.mem_singleton.mp hq]
          exact hp
end
end K14
/-! HB: the cut of the program is the law's cut. -/
namespace K14
open PySem PySem.Spec PyProof.Rows L2
def lastR (m : Str) (rs : List Rule) : Nat → List Str → Nat → List Str
  | 0, row, _ => row
  | f + 1, row, st => match nextJ m rs row st with
    | none => row
    | some p => lastR m rs f (joinN row p.1) p.2
theorem last_stg (m : Str) (rs : List Rule) : ∀ (f : Nat) (row : List Str) (st : Nat), ((stg m rs f row st).getLast (stg_ne _ _ _ _ _)).1 = lastR m rs f row st
  | 0, row, st => rfl
  | f + 1, row, st => by
    have e : stg m rs (f + 1) row st = match nextJ m rs row st with
      | none => [(row, none)]
      | some p => (row, some p) :: stg m rs f (joinN row p.1) p.2 := rfl
    have e2 : lastR m rs (f + 1) row st = match nextJ m rs row st with
      | none => row
      | some p => lastR m rs f (joinN row p.1) p.2 := rfl
    rw [e2]
    cases h : nextJ m rs row st with
    | none =>
      have e3 : stg m rs (f + 1) row st = [(row, none)] := by rw [e, h]
      simp only [e3]
      rfl
    | some p =>
      have e3 : stg m rs (f + 1) row st = (row, some p) :: stg m rs f (joinN row p.1) p.2 := by rw [e, h]
      simp only [e3]
      rw [List.getLast_cons (stg_ne _ _ _ _ _)]
      exact last_stg m rs f _ _
theorem cutOf_last (T : Tb) (z : Str) : cutOf T z = lastR T.m T.rs (sigs z).length (sigs z) 0 := last_stg _ _ _ _ _
/-! ### the folds by places -/
def gB (m : Str) (rs : List Rule) (row : List Str) (st : Nat) (b : Option (Nat × Nat)) (i : Nat) : Option (Nat × Nat) :=
  match rankOf rs (pairAt row i) with
  | none => b
  | some o => stepB m st b (i, o)
theorem nextJ_fold (m : Str) (rs : List Rule) (row : List Str) (st : Nat) : nextJ m rs row st = (List.range (row.length - 1)).foldl (gB m rs row st) none := by
  have key : ∀ (l : List Nat) (b : Option (Nat × Nat)), ((l.filter fun i => (rankOf rs (pairAt row i)).isSome).map fun i => (i, (rankOf rs (pairAt row i)).getD 0)).foldl (stepB m st) b = l.foldl (gB m rs row st) b := fun l => by
    induction l with
    | nil => intro b; rfl
    | cons i l ih =>
      intro b
      cases h : rankOf rs (pairAt row i) with
      | none =>
        rw [List.filter_cons_of_neg (by rw [h]; exact Bool.false_ne_true), ih, List.foldl_cons]
        have : gB m rs row st b i = b := by unfold gB; rw [h]
        rw [this]
      | some o =>
        rw [List.filter_cons_of_pos (by rw [h]; rfl), List.map_cons, List.foldl_cons, List.foldl_cons, ih]
        have : gB m rs row st b i = stepB m st b (i, o) := by unfold gB; rw [h]
        rw [this, h]
        rfl
  exact key _ none
def swp (b : Option (Nat × Nat)) : Option (Nat × Nat) := b.map fun q => (q.2, q.1)
theorem man_cases {m : Str} (h : m ∈ manners) (ho : m ≠ "once") : m = "ranked" ∨ m = "rightranked" ∨ m = "leftmost" ∨ m = "rightmost" := by
  unfold manners at h
  rcases List.mem_cons.mp h with e | h
  · exact .inl e
  rcases List.mem_cons.mp h with e | h
  · exact .inr (.inl e)
  rcases List.mem_cons.mp h with e | h
  · exact .inr (.inr (.inl e))
  rcases List.mem_cons.mp h with e | h
  · exact .inr (.inr (.inr e))
  · exact absurd (List.mem_singleton.mp h) ho
theorem pref_iff {m : Str} (h : m ∈ manners) (ho : m ≠ "once") (o q : Nat) : pref m o q = true ↔ (m = "rightmost" ∨ ((m = "ranked" ∨ m = "rightranked") ∧ (o < q ∨ (o = q ∧ m = "rightranked")))) := by
  have n1 : ¬ ("ranked" : Str) = "rightranked" := by decide
  have n2 : ¬ ("ranked" : Str) = "leftmost" := by decide
  have n3 : ¬ ("ranked" : Str) = "rightmost" := by decide
  have n4 : ¬ ("rightranked" : Str) = "rightmost" := by decide
  have n5 : ¬ ("rightranked" : Str) = "ranked" := by decide
  have n6 : ¬ ("leftmost" : Str) = "rightranked" := by decide
  have n7 : ¬ ("leftmost" : Str) = "ranked" := by decide
  have n8 : ¬ ("leftmost" : Str) = "rightmost" := by decide
  have n9 : ¬ ("rightmost" : Str) = "rightranked" := by decide
  have n10 : ¬ ("rightmost" : Str) = "leftmost" := by decide
  unfold pref
  rcases man_cases h ho with e | e | e | e
  · subst e
    rw [if_neg n1, if_neg n2, if_neg n3, decide_eq_true_eq]
    exact ⟨fun h => .inr ⟨.inl rfl, .inl h⟩, fun h => h.elim (fun h => absurd h n3) fun h => h.2.elim id fun h => absurd h.2 n1⟩
  · subst e
    rw [if_pos rfl, decide_eq_true_eq]
    exact ⟨fun h => .inr ⟨.inr rfl, by rcases Nat.lt_or_eq_of_le h with h | h; exact .inl h; exact .inr ⟨h, rfl⟩⟩, fun h => h.elim (fun h => absurd h n4) fun h => h.2.elim Nat.le_of_lt fun h => Nat.le_of_eq h.1⟩
  · subst e
    rw [if_neg n6, if_pos rfl]
    exact ⟨fun h => (Bool.false_ne_true h).elim, fun h => h.elim (fun h => absurd h n8) fun h => h.1.elim (fun h => absurd h n7) fun h => absurd h n6⟩
  · subst e
    rw [if_neg n9, if_neg n10, if_pos rfl]
    exact ⟨fun _ => .inl rfl, fun _ => rfl⟩
theorem fold_swp {m : Str} (h : m ∈ manners) (ho : m ≠ "once") (rs : List Rule) (row : List Str) (st : Nat) : ∀ (l : List Nat) (b : Option (Nat × Nat)), l.foldl (stepN m rs row) (swp b) = swp (l.foldl (gB m rs row st) b)
  | [], b => rfl
  | i :: l, b => by
    have e : stepN m rs row (swp b) i = swp (gB m rs row st b i) := by
      unfold stepN gB
      cases rankOf rs (pairAt row i) with
      | none => rfl
      | some o =>
        cases b with
        | none =>
          show some (o, i) = swp (stepB m st none (i, o))
          unfold stepB
          rw [if_neg (fun z => ho z.1)]
          rfl
        | some q =>
          show (if m = "rightmost" ∨ ((m = "ranked" ∨ m = "rightranked") ∧ (o < q.2 ∨ (o = q.2 ∧ m = "rightranked"))) then some (o, i) else swp (some q)) = swp (stepB m st (some q) (i, o))
          have e1 : stepB m st (some q) (i, o) = if pref m o q.2 = true then some (i, o) else some q := by
            unfold stepB
            rw [if_neg (show ¬ (m = "once" ∧ (i, o).2 < st) from fun z => ho z.1)]
          rw [e1]
          by_cases hp : pref m o q.2 = true
          · rw [if_pos hp, if_pos ((pref_iff h ho o q.2).mp hp)]
            rfl
          · rw [if_neg hp, if_neg (fun z => hp ((pref_iff h ho o q.2).mpr z))]
    rw [List.foldl_cons, List.foldl_cons, e]
    exact fold_swp h ho rs row st l _
theorem next_swp {m : Str} (h : m ∈ manners) (ho : m ≠ "once") (rs : List Rule) (row : List Str) (st : Nat) : lawNext m rs row = swp (nextJ m rs row st) := by
  rw [nextJ_fold]
  exact fold_swp h ho rs row st _ none
theorem last_laps {m : Str} (h : m ∈ manners) (ho : m ≠ "once") (rs : List Rule) : ∀ (f : Nat) (row : List Str) (st : Nat), lastR m rs f row st = laps m rs f row
  | 0, row, st => rfl
  | f + 1, row, st => by
    unfold lastR laps
    rw [next_swp h ho rs row st]
    cases nextJ m rs row st with
    | none => rfl
    | some p => exact last_laps h ho rs f _ _
/-! ### once -/
abbrev onc : Str := "once"
theorem gB_keep (rs : List Rule) (row : List Str) (st : Nat) : ∀ (l : List Nat) (q : Nat × Nat), q.2 = st → l.foldl (gB onc rs row st) (some q) = some q
  | [], q, _ => rfl
  | i :: l, q, hq => by
    have e : gB onc rs row st (some q) i = some q := by
      unfold gB
      cases rankOf rs (pairAt row i) with
      | none => rfl
      | some o =>
        show stepB onc st (some q) (i, o) = some q
        unfold stepB
        by_cases ho : o < st
        · rw [if_pos ⟨rfl, ho⟩]
        · rw [if_neg (fun z => ho z.2)]
          show (if pref onc o q.2 = true then some (i, o) else some q) = some q
          have : pref onc o q.2 = decide (o < q.2) := rfl
          rw [this, if_neg (by rw [decide_eq_true_eq]; omega)]
    rw [List.foldl_cons, e]
    exact gB_keep rs row st l q hq
theorem rank_is {rs : List Rule} {p : Rule} {st : Nat} (nd : rs.Nodup) (hp : rs[st]? = some p) {x : Rule} : rankOf rs x = some st ↔ x = p := by
  constructor
  · intro h
    have := (rankOf_at h).1
    rw [hp] at this
    exact (Option.some.inj this).symm
  · intro e
    subst e
    cases h : rankOf rs x with
    | none => exact absurd (List.mem_of_getElem? hp) (rankOf_none.mp h)
    | some o =>
      have h2 := (rankOf_at h).1
      obtain ⟨l1, e1⟩ := List.getElem?_eq_some_iff.mp h2
      obtain ⟨l2, e2⟩ := List.getElem?_eq_some_iff.mp hp
      have : o = st := (List.getElem_inj nd).mp (e1.trans e2.symm)
      rw [this]
theorem gB_next {rs : List Rule} {row : List Str} {st : Nat} : ∀ (l : List Nat) (b : Option (Nat × Nat)), (∀ i ∈ l, rankOf rs (pairAt row i) ≠ some st) → l.foldl (gB onc rs row st) b = l.foldl (gB onc rs row (st + 1)) b
  | [], b, _ => rfl
  | i :: l, b, h => by
    have e : gB onc rs row st b i = gB onc rs row (st + 1) b i := by
      unfold gB
      have hi := h i List.mem_cons_self
      cases ho : rankOf rs (pairAt row i) with
      | none => rfl
      | some o =>
        have hne : o ≠ st := fun z => hi (by rw [ho, z])
        show stepB onc st b (i, o) = stepB onc (st + 1) b (i, o)
        unfold stepB
        by_cases hl : o < st
        · rw [if_pos ⟨rfl, hl⟩, if_pos ⟨rfl, show o < st + 1 by omega⟩]
        · rw [if_neg (fun z => hl z.2), if_neg (fun z => by have : o < st + 1 := z.2; omega)]
    rw [List.foldl_cons, List.foldl_cons, e]
    exact gB_next l _ fun j hj => h j (List.mem_cons_of_mem _ hj)
theorem gB_first {rs : List Rule} {row : List Str} {st k : Nat} {p : Rule} (nd : rs.Nodup) (hp : rs[st]? = some p) : ∀ (l : List Nat) (b : Option (Nat × Nat)), (∀ q, b = some q → st < q.2) → l.find? (fun i => decide (pairAt row i = p)) = some k → l.foldl (gB onc rs row st) b = some (k, st)
  | [], b, _, h => by cases h
  | i :: l, b, hb, h => by
    by_cases hi : pairAt row i = p
    · rw [List.find?_cons_of_pos (by exact decide_eq_true hi)] at h
      obtain rfl := Option.some.inj h
      have e : gB onc rs row st b i = some (i, st) := by
        unfold gB
        rw [(rank_is nd hp).mpr hi]
        show stepB onc st b (i, st) = some (i, st)
        unfold stepB
        rw [if_neg (fun z => Nat.lt_irrefl _ z.2)]
        cases b with
        | none => rfl
        | some q =>
          show (if pref onc st q.2 = true then some (i, st) else some q) = some (i, st)
          have : pref onc st q.2 = decide (st < q.2) := rfl
          rw [this, if_pos (decide_eq_true (hb q rfl))]
      rw [List.foldl_cons, e]
      exact gB_keep rs row st l _ rfl
    · rw [List.find?_cons_of_neg (by rw [decide_eq_true_eq]; exact hi)] at h
      rw [List.foldl_cons]
      refine gB_first nd hp l _ (fun q hq => ?_) h
      unfold gB at hq
      cases ho : rankOf rs (pairAt row i) with
      | none =>
        rw [ho] at hq
        exact hb q hq
      | some o =>
        rw [ho] at hq
        have hne : o ≠ st := fun z => hi ((rank_is nd hp).mp (by rw [ho, z]))
        have hq : stepB onc st b (i, o) = some q := hq
        unfold stepB at hq
        by_cases hl : o < st
        · rw [if_pos ⟨rfl, hl⟩] at hq
          exact hb q hq
        · rw [if_neg (fun z => hl z.2)] at hq
          cases b with
          | none =>
            obtain rfl := Option.some.inj hq
            show st < o
            omega
          | some q' =>
            have hq : (if pref onc o q'.2 = true then some (i, o) else some q') = some q := hq
            split at hq
            · obtain rfl := Option.some.inj hq
              show st < o
              omega
            · exact hb q hq
theorem stepN_keep (p : Rule) (row : List Str) : ∀ (l : List Nat) (q : Nat × Nat), l.foldl (stepN onc [p] row) (some q) = some q
  | [], q => rfl
  | i :: l, q => by
    have e : stepN onc [p] row (some q) i = some q := by
      unfold stepN
      cases rankOf [p] (pairAt row i) with
      | none => rfl
      | some o =>
        show (if onc = "rightmost" ∨ ((onc = "ranked" ∨ onc = "rightranked") ∧ (o < q.1 ∨ (o = q.1 ∧ onc = "rightranked"))) then some (o, i) else some q) = some q
        rw [if_neg (fun z => z.elim (by decide) fun z => z.1.elim (by decide) (by decide))]
    rw [List.foldl_cons, e]
    exact stepN_keep p row l q
theorem stepN_first (p : Rule) (row : List Str) : ∀ (l : List Nat), l.foldl (stepN onc [p] row) none = (l.find? (fun i => decide (pairAt row i = p))).map fun k => (0, k)
  | [] => rfl
  | i :: l => by
    by_cases hi : pairAt row i = p
    · rw [List.find?_cons_of_pos (by exact decide_eq_true hi)]
      have e : stepN onc [p] row none i = some (0, i) := by
        unfold stepN
        have : rankOf [p] (pairAt row i) = some 0 := by unfold rankOf; rw [if_pos hi.symm]
        rw [this]
      rw [List.foldl_cons, e]
      exact stepN_keep p row l _
    · rw [List.find?_cons_of_neg (by rw [decide_eq_true_eq]; exact hi)]
      have e : stepN onc [p] row none i = none := by
        unfold stepN
        have : rankOf [p] (pairAt row i) = none := rankOf_none.mpr fun z => hi (List.mem_singleton.mp z)
        rw [this]
      rw [List.foldl_cons, e]
      exact stepN_first p row l
theorem next_short (m : Str) (rs : List Rule) (row : List Str) (st : Nat) (h : row.length ≤ 1) : nextJ m rs row st = none := by
  rw [nextJ_fold, show row.length - 1 = 0 by omega]
  rfl
theorem law_short (m : Str) (rs : List Rule) (row : List Str) (h : row.length ≤ 1) : lawNext m rs row = none := by
  unfold lawNext
  rw [show row.length - 1 = 0 by omega]
  rfl
theorem laps_none {m : Str} {rs : List Rule} {row : List Str} (h : lawNext m rs row = none) : ∀ n, laps m rs n row = row
  | 0 => rfl
  | n + 1 => by
    unfold laps
    rw [h]
theorem laps_fuel (m : Str) (rs : List Rule) : ∀ (n : Nat) (row : List Str), row.length ≤ n + 1 → laps m rs (n + 1) row = laps m rs n row
  | 0, row, h => by
    rw [laps_none (law_short m rs row h), laps_none (law_short m rs row h)]
  | n + 1, row, h => by
    have e : ∀ k, laps m rs (k + 1) row = match lawNext m rs row with
      | none => row
      | some q => laps m rs k (joinN row q.2) := fun k => rfl
    rw [e (n + 1), e n]
    cases hq : lawNext m rs row with
    | none => rfl
    | some q =>
      have hk := joinN_len (lawNext_some hq).1
      exact laps_fuel m rs n _ (by omega)
theorem once_cut {rs : List Rule} (nd : rs.Nodup) (N : Nat) : ∀ (n : Nat) (row : List Str) (st f : Nat), row.length + (rs.length - st) ≤ n → row.length ≤ f + 1 → row.length ≤ N → lastR onc rs f row st = (rs.drop st).foldl (fun row p => laps onc [p] N row) row
  | n, row, st, f, hn, hf, hN => by
    by_cases hst : st < rs.length
    · have hp : rs[st]? = some rs[st] := List.getElem?_eq_getElem hst
      rw [List.drop_eq_getElem_cons hst, List.foldl_cons]
      cases hk : (List.range (row.length - 1)).find? (fun i => decide (pairAt row i = rs[st])) with
      | none =>
        have hl : lawNext onc [rs[st]] row = none := by
          unfold lawNext
          rw [stepN_first, hk]
          rfl
        rw [laps_none hl]
        have hj : nextJ onc rs row st = nextJ onc rs row (st + 1) := by
          rw [nextJ_fold, nextJ_fold]
          refine gB_next _ _ fun i hi z => ?_
          have := List.find?_eq_none.mp hk i hi
          rw [decide_eq_true_eq] at this
          exact this ((rank_is nd hp).mp z)
        have e : lastR onc rs f row st = lastR onc rs f row (st + 1) := by
          cases f with
          | zero => rfl
          | succ f =>
            unfold lastR
            rw [hj]
        rw [e]
        match n, hn with
        | n + 1, hn => exact once_cut nd N n row (st + 1) f (by omega) hf hN
        | 0, hn => omega
      | some k =>
        have hl : lawNext onc [rs[st]] row = some (0, k) := by
          unfold lawNext
          rw [stepN_first, hk]
          rfl
        have hkr := (lawNext_some hl).1
        have hlen := joinN_len hkr
        have hj : nextJ onc rs row st = some (k, st) := by
          rw [nextJ_fold]
          exact gB_first nd hp _ _ (fun q h => nomatch h) hk
        match f, hf with
        | 0, hf =>
          have : k + 1 < row.length := hkr
          omega
        | f + 1, hf =>
          have e1 : lastR onc rs (f + 1) row st = lastR onc rs f (joinN row k) st := by
            show (match nextJ onc rs row st with | none => row | some p => lastR onc rs f (joinN row p.1) p.2) = _
            rw [hj]
          match N, hN with
          | 0, hN =>
            have : k + 1 < row.length := hkr
            omega
          | N + 1, hN =>
            have hlen' : (joinN row k).length + 1 = row.length := hlen
            have e2 : laps onc [rs[st]] (N + 1) row = laps onc [rs[st]] (N + 1) (joinN row k) := by
              have : laps onc [rs[st]] (N + 1) row = laps onc [rs[st]] N (joinN row k) := by
                show (match lawNext onc [rs[st]] row with | none => row | some q => laps onc [rs[st]] N (joinN row q.2)) = _
                rw [hl]
              rw [this]
              exact (laps_fuel onc [rs[st]] N _ (by omega)).symm
            rw [e1, e2]
            match n, hn with
            | 0, hn => omega
            | n + 1, hn =>
              have ih := once_cut nd (N + 1) n (joinN row k) st f (by omega) (by omega) (by omega)
              rw [List.drop_eq_getElem_cons hst, List.foldl_cons] at ih
              exact ih
    · rw [List.drop_of_length_le (by omega)]
      have hj : nextJ onc rs row st = none := by
        rw [nextJ_fold]
        have key : ∀ l : List Nat, l.foldl (gB onc rs row st) none = none := fun l => by
          induction l with
          | nil => rfl
          | cons i l ih =>
            have e : gB onc rs row st none i = none := by
              unfold gB
              cases ho : rankOf rs (pairAt row i) with
              | none => rfl
              | some o =>
                have hlt : o < rs.length := (List.getElem?_eq_some_iff.mp (rankOf_at ho).1).1
                show stepB onc st none (i, o) = none
                unfold stepB
                rw [if_pos ⟨rfl, show o < st by omega⟩]
            rw [List.foldl_cons, e]
            exact ih
        exact key _
      cases f with
      | zero => rfl
      | succ f =>
        unfold lastR
        rw [hj]
        rfl
  termination_by n => n
theorem cut_eq {T : Tb} {z : Str} (O : TbOk T) : cutOf T z = lawCut T z := by
  have hl : (sigs z).length = z.length := by rw [sigs_len]; rfl
  rw [cutOf_last]
  unfold lawCut lawStages
  by_cases ho : T.m = "once"
  · rw [if_pos ho, List.foldl_map, ho]
    exact once_cut O.nd z.length _ (sigs z) 0 _ (Nat.le_refl _) (by omega) (by omega)
  · rw [if_neg ho, List.foldl_cons, last_laps O.m ho, hl]
    rfl
theorem cut_cutd {T : Tb} {z : Str} (O : TbOk T) : Cutd z (cutOf T z) := by
  rw [cut_eq O]
  unfold lawCut
  have key : ∀ (l : List (List Rule)) (row : List Str), Cutd z row → Cutd z (l.foldl (fun row rs => laps T.m rs z.length row) row) := fun l => by
    induction l with
    | nil => intro row h; exact h
    | cons rs l ih => intro row h; exact ih _ (laps_cutd _ h)
  exact key _ _ (cutd_sigs z)
theorem str_ext {x y : Str} (h : x.cps.toList = y.cps.toList) : x = y := by
  cases x with
  | mk a =>
    cases y with
    | mk b =>
      have : a = b := Array.toList_inj.mp h
      rw [this]
theorem cut_join {T : Tb} {z : Str} (O : TbOk T) : Txt.join "" (cutOf T z) = z := str_ext (by
  rw [join_list]
  exact (cut_cutd O).fl)
theorem cut_row {T : Tb} {z : Str} (O : TbOk T) (W : WordOf T.ls z) : RowOk (cutOf T z) := by
  have C := cut_cutd (z := z) O
  exact ⟨fun x hx => ⟨⟨fun c hc => O.ls.low c (W.of c (C.sub hx c hc)), Nat.le_trans (C.each hx) W.len⟩, C.ne x hx⟩, Nat.le_trans C.len W.len⟩
theorem next_none {m : Str} {rs : List Rule} {row : List Str} (h : lawNext m rs row = none) : ∀ j, j + 1 < row.length → pairAt row j ∉ rs := by
  have some_ : ∀ (l : List Nat) (q : Nat × Nat), l.foldl (stepN m rs row) (some q) ≠ none := fun l => by
    induction l with
    | nil => intro q; exact fun z => nomatch z
    | cons i l ih =>
      intro q
      rw [List.foldl_cons]
      have : ∃ q', stepN m rs row (some q) i = some q' := by
        unfold stepN
        cases rankOf rs (pairAt row i) with
        | none => exact ⟨q, rfl⟩
        | some o =>
          show ∃ q', (if m = "rightmost" ∨ ((m = "ranked" ∨ m = "rightranked") ∧ (o < q.1 ∨ (o = q.1 ∧ m = "rightranked"))) then some (o, i) else some q) = some q'
          split
          · exact ⟨_, rfl⟩
          · exact ⟨_, rfl⟩
      obtain ⟨q', e⟩ := this
      rw [e]
      exact ih q'
  have key : ∀ (l : List Nat), l.foldl (stepN m rs row) none = none → ∀ j ∈ l, pairAt row j ∉ rs := fun l => by
    induction l with
    | nil => intro _ j hj; cases hj
    | cons i l ih =>
      intro h j hj
      rw [List.foldl_cons] at h
      cases ho : rankOf rs (pairAt row i) with
      | none =>
        have e : stepN m rs row none i = none := by unfold stepN; rw [ho]
        rw [e] at h
        rcases List.mem_cons.mp hj with e2 | hj
        · rw [e2]
          exact rankOf_none.mp ho
        · exact ih h j hj
      | some o =>
        have e : stepN m rs row none i = some (o, i) := by unfold stepN; rw [ho]
        rw [e] at h
        exact absurd h (some_ l _)
  exact fun j hj => key _ h j (List.mem_range.mpr (by omega))
theorem laps_done (m : Str) (rs : List Rule) : ∀ (n : Nat) (row : List Str), row.length ≤ n + 1 → lawNext m rs (laps m rs n row) = none
  | 0, row, h => law_short m rs row h
  | n + 1, row, h => by
    unfold laps
    cases hq : lawNext m rs row with
    | none => exact hq
    | some q =>
      have hk := joinN_len (lawNext_some hq).1
      exact laps_done m rs n _ (by omega)
theorem cut_over {T : Tb} {z : Str} (O : TbOk T) (ho : T.m ≠ "once") : ∀ j, j + 1 < (cutOf T z).length → pairAt (cutOf T z) j ∉ T.rs := by
  refine next_none (m := T.m) ?_
  rw [cutOf_last, last_laps O.m ho]
  exact laps_done _ _ _ _ (Nat.le_succ _)
end K14
/-! MK: is_form, cuts_right. -/
namespace K14
open PySem PySem.Spec PyProof.Rows L2
/-! ### what is known of rows and tables -/
structure RowWd (P : Program) (w : World) (K : PySem.W.Frag) (mg : Str → Option Value) (base : Heap) (Rw : Addr) : Prop where
  hm : mg "Row" = some (.ref Rw)
  ins : InsT K (fun C => C = Rw) Rw
  cls : Cls K Rw
  pieces : ∃ f fd, MethF K (fun C => C = Rw) "pieces" f ∧ FnOk P w K mg base CX0 1 f fd ["self"] (spT (fun xs : List Str => [tyRow K Rw xs]) (fun xs => tyD K (strsD xs))) ∧ Binds K fd ["self"] []
  text : ∃ pp f fd, PropOf K Rw "text" pp f ∧ FnOk P w K mg base CX0 1 f fd ["self"] (spT (fun xs : List Str => [tyRow K Rw xs]) (fun xs => tyD K (.str (Txt.join "" xs)))) ∧ Binds K fd ["self"] []
abbrev TbI : Type := { T : Tb // TbOk T }
structure TabWd (P : Program) (w : World) (K : PySem.W.Frag) (mg : Str → Option Value) (base : Heap) (CC : Addr → Prop) (tb Rw : Addr) : Prop where
  hm : mg "Table" = some (.ref tb)
  ins : InsT K CC tb
  cls : ∀ C, CC C → Cls K C
  has : CC tb
  nf : ∀ C D, CC C → D = tb → PySem.W.notFirst K C (.ref D) = true
  form : ∃ f fd, MethF K CC "form" f ∧ FnOk P w K mg base CX0 1 f fd ["self"] (spT (fun T : Tb => [tyTab K CC T]) (fun T => tyD K (tbD T))) ∧ Binds K fd ["self"] []
  len : ∃ f fd, SpcF K CC "__len__" f ∧ FnOk P w K mg base CX0 1 f fd ["self"] (spT (fun i : TbI => [tyTab K CC i.1]) (fun i => tyD K (.int (i.1.rs.length : Nat)))) ∧ Binds K fd ["self"] []
  item : ∃ f fd, SpcF K CC "__getitem__" f ∧ FnOk P w K mg base CX0 3 f fd ["self", "rank"] (spT (fun i : WoIx => [tyTab K CC i.T, tyD K (.int (i.k : Nat))]) (fun i => tyD K (pairD (i.T.rs.getD i.k ("", ""))))) ∧ Binds K fd ["self", "rank"] []
  call : ∃ f fd, SpcF K CC "__call__" f ∧ FnOk P w K mg base CX0 11 f fd ["self", "text"] (spT (fun i : ClIx => [tyTab K CC i.T, tyD K (.str i.z)]) (fun i => tyRow K Rw (cutOf i.T i.z))) ∧ Binds K fd ["self", "text"] []
  str : ∃ f fd, SpcF K CC "__str__" f ∧ FnOk P w K mg base CX0 3 f fd ["self"] (spT (fun i : TbI => [tyTab K CC i.1]) (fun i => tyD K (.str (tableT i.1)))) ∧ Binds K fd ["self"] []
  eq : ∃ f fd, SpcF K CC "__eq__" f ∧ FnOk P w K mg base CX0 1 f fd ["self", "other"] (spT (fun i : TbI => [tyTab K CC i.1, tyTab K (fun C => C = tb) i.1]) (fun _ => tyD K (.bool true))) ∧ Binds K fd ["self", "other"] []
  of : ∃ mc pp f fd, ClX.CRead K tb mc ∧ ClX.CMet K tb mc "of" pp f ∧ FnOk P w K mg base CX0 11 f fd ["cls", "table"] (spT (fun i : TbI => [tyV (.ref tb), tyD K (tbD i.1)]) (fun i => tyTab K (fun C => C = tb) i.1)) ∧ Binds K fd ["cls", "table"] []
section
variable {X : Cx} {ρ : Rho} {pos p : Pos} {a b : Expr} {k : Nat} {f : Addr} {fd : FuncData} {ps : List Str} {ι : Type} {A : ι → List Ty} {R : ι → Ty} {CC C2 : Addr → Prop} {fts fts2 : List (Str × Ty)}
/-- o == o2 as a test -/
theorem tt_eqO {i : ι} {c : Bool} (ha : PE X a (tT ρ (tyO CC fts))) (hb : PE X b (tT ρ (tyO C2 fts2))) (S : SpcF X.K CC "__eq__" f) (cl : ∀ C, CC C → Cls X.K C) (cl2 : ∀ C, C2 C → Cls X.K C) (hn : ∀ C D, CC C → C2 D → PySem.W.notFirst X.K C (.ref D) = true)
    (F : FnOk X.prog X.w X.K X.mg X.base CX0 k f fd ps (spT A R)) (hr : Room k X.A) (hbd : Binds X.K fd ps []) (hA : A i = [tyO CC fts, tyO C2 fts2]) (hR : R i = dB X c) : PT X (.Compare a [.Eq] [b] pos) (tTB ρ c) := by
  have op : OpR X (compareOp .Eq) (fun x y H Q => (tyO CC fts).p H x ∧ (tyO C2 fts2).p H y ∧ ∀ v H', Gr H H' → (dB X c).p H' v → Q v H') := by
    intro pins s σ H x y u w Q I rx ry ⟨hx, hy, q⟩
    obtain ⟨o1, C, dx, fs, ft, e1, hC, h3, h4, h5⟩ := id hx
    obtain ⟨o2, D, dy, gs, gt, e2, hD, g3, g4, g5⟩ := id hy
    subst e1 e2
    cases (show u = Value.ref o1 from rx)
    cases (show w = Value.ref o2 from ry)
    obtain ⟨mA, O, _, _, _, _⟩ := ins_get I.hok h3
    obtain ⟨od, J, _⟩ := O.look
    obtain ⟨mB, O2, _, _, _, _⟩ := ins_get I.hok g3
    obtain ⟨od2, J2, _⟩ := O2.look
    obtain ⟨m, fr⟩ := I.fr
    show wpAny _ _ (richCompare .Eq (.ref o1) (.ref o2)) _ _ _
    refine PySem.W.cmp_K hr.units0 fr I.ok.mod.kin J J2.type (hn C D hC hD) (S.at_ C hC) S.fn (thn (run_T (i := i) F hr hbd I (vs := [.ref o1, .ref o2]) (.cons rfl (.cons rfl .nil)) (by rw [hA]; exact ⟨hx, hy, True.intro⟩)) fun v s' ⟨z, H', I', rz, g, pz⟩ => ?_)
    refine relV_back rz ⟨z, H', I', rz, q z H' g ?_⟩
    rw [← hR]
    exact pz
  exact pt_weak (pt_cmpR op ha hb (nomark _)) fun σ H Q q => ⟨q.1, fun x H1 e1 hx => ⟨q.1.mono e1, fun y H2 e2 hy => ⟨(tyO CC fts).st e2 hx, hy, fun v H' g hv => ⟨c, Dp.bl_ hv, q.2 H' ((e1.trans e2).trans g)⟩⟩⟩⟩
end
structure CrIx where
  T : Tb
  ws : List Str
  O : TbOk T
  W : ∀ z ∈ ws, WordOf T.ls z
  len : ws.length ≤ 1000
section
variable {P : Program} {w : World} {K : PySem.W.Frag} {mg : Str → Option Value} {base : Heap} {f Rw tb : Addr} {fd : FuncData} {CC : Addr → Prop}
abbrev CCuts (P : Program) (w : World) (K : PySem.W.Frag) (mg : Str → Option Value) (base : Heap) (CC : Addr → Prop) : Prop := Cal P w K mg base 12 "_law_cuts_right" (fun i : CrIx => [tyTab K CC i.T, tyD K (tbD i.T), tyTL K (i.ws.map .str)]) (fun _ => tyD K (.bool true))
abbrev crN : List Str := ["_law_table", "_law_triple", "_law_words", "_law_word", "_law_told", "_law_due"]
theorem sc68 : FnScope crN ["_law_table", "_law_triple", "_law_words"] (scopeAt 68) := ⟨rfl, rfl, rfl, by decide +kernel, rfl, by decide +kernel, by decide +kernel⟩
theorem ok_law_cuts_right (F : DefAt K "_law_cuts_right" 68 f fd) (hm : mg "_law_cuts_right" = some (.ref f)) (B : Free mg) (R : RowWd P w K mg base Rw) (W : TabWd P w K mg base CC tb Rw) (c62 : ∀ n, CSame P w K mg base n) (c65 : CLCut P w K mg base) (c67 : COver P w K mg base) (c15 : CRow P w K mg base) : CCuts P w K mg base CC := by
  refine cal_of F hm sc68 (fun kV doc pm an cdv ct us hl => ?_) (fun _ => rfl) fun i cdv A outer s H E hr => ?_
  · match us, hl with
    | [a, b, c], _ => rfl
  · obtain ⟨T, ws, O, hW, hlen⟩ := i
    obtain ⟨f8, fd8, S8, F8, b8⟩ := W.call
    obtain ⟨f5, fd5, M5, F5, b5⟩ := R.pieces
    obtain ⟨pp, f4, fd4, P4, F4, b4⟩ := R.text
    let rho := fun (x y z : Option Ty) => ([some (tyTab K CC T), some (tyD K (tbD T)), some (tyTL K (ws.map .str)), x, y, z] : Rho)
    have hl3 : (ws.map PyData.str).length = ws.length := List.length_map ..
    refine ts_cons (ts_for (n := (ws.map PyData.str).length) (item := itD K (ws.map .str)) (vs := [3]) (fun j ρ' => ∃ x y z, ρ' = rho x y z) (fun j ρ' => ρ'.set 3 (some (itD K (ws.map .str) j)))
      PassesOwn.never rfl (ti_list (te_le (te_var 2) tyTL_le)) ⟨_, _, _, rfl⟩ (fun ρ' ⟨x, y, z, e⟩ => ?_) (fun j ρ' hj _ => tg_name 3 sc68.nd (by decide)) fun j ρ' hj ⟨x, y, z, e⟩ => ?_)
    · subst e
      exact ts_one (ts_ret te_bl)
    · subst e
      rw [hl3] at hj
      have e3 : itD K (ws.map .str) j = tyD K (.str ws[j]) := by
        show tyD K _ = _
        rw [getD_map PyData.str .none _ j hj]
      rw [e3]
      have hz := hW _ (List.getElem_mem hj)
      generalize ws[j] = z at hz
      have hrow := cut_row O hz
      have hover : T.m ≠ "once" → ∀ j, j + 1 < (cutOf T z).length → pairAt (cutOf T z) j ∉ T.rs := cut_over O
      have hjoin : Txt.join "" (cutOf T z) = z := cut_join O
      refine ts_cons (ts_par (i := 4) (j := 5) (A := tyRow K Rw (cutOf T z)) (B := tyD K (strsD (cutOf T z))) (ta_cons (te_le (te_callO (i := (ClIx.mk T z O hz hrow)) (te_var 0 (T := tyTab K CC T)) S8 F8 hr b8 (ta_one (te_var 3) rfl) rfl) Ty.le.rfl) (ta_one (te_d (te_fn (i := CuIx.mk T z O hz) c65 (hr.mono (by decide)) (ta_cons (te_var 1) (ta_one (te_var 3) rfl))) (by rw [cut_eq O])) rfl)) ?_ rfl sc68.nd)
      generalize hc : cutOf T z = row at hrow hover hjoin
      have lowr : ∀ x ∈ row, Low x := fun x hx => (hrow.each x hx).text.low
      refine ts_cons (ts_if (k := false) (PW.pt (tw_or (c := false) (d := false) (tt_not (c := true) (tt_val (te_isO B.isinstance (te_var 4 (T := tyRow K Rw row)) R.hm R.ins))) fun _ => tw_or (c := false) (d := false) (tt_not (c := true) (tt_fn (i := (Subtype.mk (strsD row) (Smp.strs hrow.len) : { d : PyData // Smp 1 d })) (c62 1) (hr.mono (by decide)) rfl (ta_cons (te_le (te_meth0 (i := row) (te_var 4 (T := tyRow K Rw row)) M5 rfl (by decide) F5 (hr.mono (by decide)) b5 rfl) Ty.le.rfl) (ta_one (te_var 5) rfl)))) fun _ => tw_or1 (tt_not (c := true) (tt_fn (i := (Subtype.mk row hrow : { xs : List Str // RowOk xs })) c15 (hr.mono (by decide)) rfl (ta_one (te_le (te_meth0 (i := row) (te_var 4 (T := tyRow K Rw row)) M5 rfl (by decide) F5 (hr.mono (by decide)) b5 rfl) Ty.le.rfl) rfl))))) (fun h => nomatch h) fun _ => ts_nil ?_)
      refine ts_one (ts_if (k := false) (PW.pt (tw_or (c := false) (d := false) (tt_not (c := true) (tt_fn (i := (Subtype.mk (.str z) Smp.str : { d : PyData // Smp 0 d })) (c62 0) (hr.mono (by decide)) rfl (ta_cons (te_d (b := .str (Txt.join "" row)) (te_le (te_prop (i := row) (te_var 4 (T := tyRow K Rw row)) R.cls P4 F4 (hr.mono (by decide)) b4 rfl) Ty.le.rfl) (by rw [hjoin])) (ta_one (te_var 3) rfl)))) fun _ => tw_or1 (tt_not (c := true) (tt_fn (i := OvIx.mk T row O hrow.len lowr hover) c67 (hr.mono (by decide)) rfl (ta_cons (te_var 1) (ta_one (te_le (te_meth0 (i := row) (te_var 4 (T := tyRow K Rw row)) M5 rfl (by decide) F5 (hr.mono (by decide)) b5 rfl) Ty.le.rfl) rfl)))))) (fun h => nomatch h) fun _ => ts_nil ⟨_, _, _, rfl⟩)
/-! is_form -/
abbrev CForm (P : Program) (w : World) (K : PySem.W.Frag) (mg : Str → Option Value) (base : Heap) (CC : Addr → Prop) : Prop := Cal P w K mg base 12 "_law_is_form" (fun i : TbI => [tyTab K CC i.1, tyD K (tbD i.1)]) (fun _ => tyD K (.bool true))
abbrev ifN : List Str := ["_law_table", "_law_triple", "_law_k"]
theorem sc69 : FnScope ifN ["_law_table", "_law_triple"] (scopeAt 69) := ⟨rfl, rfl, rfl, by decide +kernel, rfl, by decide +kernel, by decide +kernel⟩
theorem ok_law_is_form (F : DefAt K "_law_is_form" 69 f fd) (hm : mg "_law_is_form" = some (.ref f)) (B : Free mg) (W : TabWd P w K mg base CC tb Rw) (c62 : ∀ n, CSame P w K mg base n) (c23 : CTable P w K mg base) (c49 : CTableT P w K mg base) : CForm P w K mg base CC := by
  refine cal_of F hm sc69 (fun kV doc pm an cdv ct us hl => ?_) (fun _ => rfl) fun i cdv A outer s H E hr => ?_
  · match us, hl with
    | [a, b], _ => rfl
  · obtain ⟨T, O⟩ := i
    obtain ⟨f7, fd7, M7, F7, b7⟩ := W.form
    obtain ⟨f12, fd12, S12, F12, b12⟩ := W.len
    obtain ⟨f9, fd9, S9, F9, b9⟩ := W.item
    obtain ⟨f17, fd17, S17, F17, b17⟩ := W.str
    obtain ⟨f13, fd13, S13, F13, b13⟩ := W.eq
    obtain ⟨mc, pp, f1, fd1, R1, M1, F1, b1⟩ := W.of
    have hl2 : T.rs.length ≤ 1000000 := Nat.le_trans O.len (by decide)
    refine ts_cons (ts_if (k := false) (PW.pt (tw_or (c := false) (d := false) (tt_not (c := true) (tt_val (te_isO B.isinstance (te_var 0 (T := tyTab K CC T)) W.hm W.ins))) fun _ => tw_or (c := false) (d := false) (tt_not (c := true) (tt_fn (i := (Subtype.mk (tbD T) (Smp.tb O) : { d : PyData // Smp 3 d })) (c62 3) (hr.mono (by decide)) rfl (ta_cons (te_le (te_meth0 (i := T) (te_var 0 (T := tyTab K CC T)) M7 rfl (by decide) F7 (hr.mono (by decide)) b7 rfl) Ty.le.rfl) (ta_one (te_var 1) rfl)))) fun _ => tw_or1 (tt_not (c := true) (tt_fn (i := (Subtype.mk T O : TbI)) c23 (hr.mono (by decide)) rfl (ta_one (te_le (te_meth0 (i := T) (te_var 0 (T := tyTab K CC T)) M7 rfl (by decide) F7 (hr.mono (by decide)) b7 rfl) Ty.le.rfl) rfl))))) (fun h => nomatch h) fun _ => ts_nil ?_)
    refine ts_cons (ts_if (k := false) (PW.pt (tw_or (c := false) (d := false) (tt_not (c := true) (tt_fn (i := (Subtype.mk (.str (tableT T)) Smp.str : { d : PyData // Smp 0 d })) (c62 0) (hr.mono (by decide)) rfl (ta_cons (te_strO (i := (Subtype.mk T O : TbI)) B.str (te_var 0 (T := tyTab K CC T)) S17 F17 (hr.mono (by decide)) b17 rfl rfl) (ta_one (te_fn (i := (Subtype.mk T O : TbI)) c49 (hr.mono (by decide)) (ta_one (te_var 1) rfl)) rfl)))) fun _ => tw_or1 (tt_not (c := true) ((tt_eqO (i := (Subtype.mk T O : TbI)) (te_var 0 (T := tyTab K CC T)) (te_le (te_cmeth (i := (Subtype.mk T O : TbI)) W.hm R1 M1 F1 b1 hr (ta_one (te_var 1) rfl) rfl) Ty.le.rfl) S13 W.cls (fun C hC => by rw [hC]; exact W.cls _ W.has) W.nf F13 (hr.mono (by decide)) b13 rfl rfl))))) (fun h => nomatch h) fun _ => ts_nil ?_)
    refine ts_one (ts_ret (te_fn (i := (Subtype.mk (rulesD T.rs) (Smp.rules O.len) : { d : PyData // Smp 2 d })) (c62 2) (hr.mono (by decide)) (ta_cons (te_tupleL (ds := T.rs.map pairD) B.tuple ?_) (ta_one (te_ixT (d := rulesD T.rs) (te_var 1 (T := tyD K (tbD T))) te_int rfl) rfl))))
    refine te_lcL (n := T.rs.length) (item := fun j => tyD K (.int (j : Nat))) (p := fun _ => true) (el := fun j => pairD (T.rs.getD j ("", ""))) (nxt := fun j => _) [("_law_k", 2)] rfl sc69.nd ?_ hl2 (blkOk_by (N := ifN) (sc := scopeAt 69) (by decide +kernel))
      (lcok (fun j hj s' H' C cl fp => tg_name 2 sc69.nd (by decide)) (fun j hj s' H' C cl fp => ?_)) ?_
    · exact pi_congr (ti_range (m := ((T.rs.length : Nat) : Int)) B.range (te_lenO (i := (Subtype.mk T O : TbI)) B.len (te_var 0 (T := tyTab K CC T)) S12 F12 (hr.mono (by decide)) b12 rfl rfl hl2) ⟨by omega, by omega⟩) (by omega) fun _ _ => rfl
    · exact te_le (te_ixO (i := WoIx.mk T j O hj) (te_var 0 (T := tyTab K CC T)) (te_var 2) S9 F9 (hr.mono (by decide)) b9 rfl) Ty.le.rfl
    · exact took_map pairD ("", "") T.rs (fun _ => true) (fun j => pairD (T.rs.getD j ("", ""))) (fun _ _ => rfl) (fun _ _ => rfl)
end
end K14
/-! HC: changed tables are in form. -/
namespace K14
open PySem PySem.Spec PyProof.Rows L2
theorem tb_add {T : Tb} {p : Rule} (O : TbOk T) (R : RuleOf T.ls p) (n : p ∉ T.rs) (l : T.rs.length < 1000) : TbOk ⟨T.ls, T.rs ++ [p], T.m⟩ := by
  refine ⟨O.ls, fun q hq => ?_, ?_, ?_, O.m⟩
  · rcases List.mem_append.mp hq with hq | hq
    · exact O.rs q hq
    · rw [List.mem_singleton.mp hq]
      exact R
  · exact List.nodup_append.mpr ⟨O.nd, List.nodup_cons.mpr ⟨List.not_mem_nil, List.nodup_nil⟩, fun a ha b hb e => n (by rw [← List.mem_singleton.mp hb, ← e]; exact ha)⟩
  · show (T.rs ++ [p]).length ≤ 1000
    rw [List.length_append]
    show T.rs.length + 1 ≤ 1000
    omega
theorem tb_cut {T : Tb} (O : TbOk T) (k : Nat) : TbOk ⟨T.ls, T.rs.take k ++ T.rs.drop (k + 1), T.m⟩ := by
  have sub : (T.rs.take k ++ T.rs.drop (k + 1)).Sublist T.rs := by
    conv => rhs; rw [← List.take_append_drop k T.rs]
    refine List.Sublist.append (List.Sublist.refl _) ?_
    rw [← List.drop_drop]
    exact List.drop_sublist _ _
  exact ⟨O.ls, fun q hq => O.rs q (sub.subset hq), O.nd.sublist sub, Nat.le_trans sub.length_le O.len, O.m⟩
theorem moreR_mem {rs rs2 : List Rule} {p : Rule} : p ∈ moreR rs rs2 ↔ p ∈ rs2 ∧ p ∉ rs := by
  unfold moreR
  rw [List.mem_filter]
  simp
theorem tb_app {T : Tb} {rs2 : List Rule} (O : TbOk T) (R : ∀ p ∈ rs2, RuleOf T.ls p) (n : ∀ p ∈ rs2, p ∉ T.rs) (nd : rs2.Nodup) (l : T.rs.length + rs2.length ≤ 1000) : TbOk ⟨T.ls, T.rs ++ rs2, T.m⟩ := by
  refine ⟨O.ls, fun q hq => ?_, ?_, ?_, O.m⟩
  · rcases List.mem_append.mp hq with hq | hq
    · exact O.rs q hq
    · exact R q hq
  · exact List.nodup_append.mpr ⟨O.nd, nd, fun a ha b hb e => n b hb (e ▸ ha)⟩
  · show (T.rs ++ rs2).length ≤ 1000
    rw [List.length_append]
    exact l
theorem moreR_nd {rs rs2 : List Rule} (h : rs2.Nodup) : (moreR rs rs2).Nodup := h.sublist List.filter_sublist
theorem moreR_len (rs rs2 : List Rule) : (moreR rs rs2).length ≤ rs2.length := List.length_filter_le _ _
theorem tb_man {T : Tb} {m : Str} (O : TbOk T) (h : m ∈ manners) : TbOk ⟨T.ls, T.rs, m⟩ := ⟨O.ls, O.rs, O.nd, O.len, h⟩
theorem revS_list (z : Str) : (revS z).cps.toList = z.cps.toList.reverse := rfl
theorem revS_revS (z : Str) : revS (revS z) = z := str_ext (by rw [revS_list, revS_list, List.reverse_reverse])
theorem revS_ne {z : Str} (h : z ≠ "") : revS z ≠ "" := fun e => h (by rw [← revS_revS z, e]; rfl)
theorem revS_word {cs : List Nat} {z : Str} (h : WordOf cs z) : WordOf cs (revS z) := ⟨fun c hc => h.of c (by rw [revS_list] at hc; exact List.mem_reverse.mp hc), by
  show (z.cps.toList.reverse.toArray).size ≤ 1000
  rw [List.size_toArray, List.length_reverse]
  exact h.len⟩
theorem mirR_mirR (p : Rule) : mirR (mirR p) = p := by
  unfold mirR
  rw [revS_revS, revS_revS]
theorem tb_mir {T : Tb} (O : TbOk T) (ho : T.m ≠ "once") : TbOk (mirT T) := by
  refine ⟨O.ls, fun q hq => ?_, ?_, ?_, ?_⟩
  · obtain ⟨p, hp, e⟩ := List.mem_map.mp hq
    subst e
    have R := O.rs p hp
    exact ⟨revS_word R.r, revS_word R.l, revS_ne R.nr, revS_ne R.nl⟩
  · exact (List.pairwise_map.mpr (O.nd.imp fun {a b} h e => h (by rw [← mirR_mirR a, e, mirR_mirR])))
  · show (T.rs.map mirR).length ≤ 1000
    rw [List.length_map]
    exact O.len
  · show mirM T.m ∈ manners
    rcases man_cases O.m ho with e | e | e | e <;> rw [e] <;> decide
end K14
/-! ML: more. -/
namespace K14
open PySem PySem.Spec PyProof.Rows L2
/-- a def without defaults whose code object is known -/
structure DefC (K : PySem.W.Frag) (x : Str) (i : Nat) (f : Addr) (fd : FuncData) (c : Addr) : Prop where
  ex : ∃ (oc : Value) (od : Option Addr) (dV kV doc pm : Value) (an : Option Addr) (ct : Value) (osl : Array (Option Value)),
    fd = PySem.W.fnOf x x (argsAt i) (bodyAt i) (scopeAt i) dV kV doc pm an (.ref c) ct ∧ K.lookup f = some ⟨oc, od, .func fd, osl⟩ ∧ PySem.W.codeIn K (.ref c) x = true ∧ DflV K dV [] ∧ KwdV K kV []
  kp : PySem.W.keepIn K (.ref f) = true
theorem DefC.def {K : PySem.W.Frag} {x : Str} {i : Nat} {f c : Addr} {fd : FuncData} (h : DefC K x i f fd c) : DefAt K x i f fd := by
  obtain ⟨oc, od, dV, kV, doc, pm, an, ct, osl, e1, e2, e3, e4, e5⟩ := h.ex
  exact ⟨⟨oc, od, dV, kV, doc, pm, an, _, ct, osl, e1, e2, e3, e4, e5⟩, h.kp⟩
section
variable {P : Program} {w : World} {K : PySem.W.Frag} {mg : Str → Option Value} {base : Heap} {x : Str} {i : Nat} {f c : Addr} {fd : FuncData} {N ps : List Str} {k : Nat} {ι : Type} {Ai : ι → List Ty} {Ri : ι → Ty}
theorem calC_of (F : DefC K x i f fd c) (hm : mg x = some (.ref f)) (S : FnScope N ps (scopeAt i))
    (hbd : ∀ (kV doc pm : Value) (an : Option Addr) (cdv ct : Value) (us : List Value), us.length = ps.length → bindArgs (PySem.W.fnOf x x (argsAt i) (bodyAt i) (scopeAt i) .none kV doc pm an cdv ct) ⟨us, []⟩ = pure (ps.zip us)) (hA : ∀ i, (Ai i).length = ps.length)
    (hb : ∀ (iz : ι) (A : Around) (outer : List Env) (s : Shared) (H : Hp) (E : XK), Room k (A.deeper (envOfC x (scopeAt i) s.heap.objs.size f (.ref c))) →
      PSs (cxOf CX0 P w K mg base N x (scopeAt i) f (.ref c) A outer s H E).nox (bodyAt i) (tS (startR N.length (Ai iz)) { nx := fun _ => ∀ H, (Ri iz).p H .non, rt := Ri iz })) : Cal P w K mg base (k + 1) x Ai Ri := by
  refine ⟨f, fd, ps, ?_, hm, F.kp, F.def.bindsN hbd⟩
  obtain ⟨oc, od, dV, kV, doc, pm, an, ct, osl, rfl, lk, hcd, _, _⟩ := F.ex
  exact fn_of lk hcd S (fun vs H Q E ⟨i, hv, _⟩ => by rw [hv.length, hA]) fun A outer s H vs Q E hr ⟨iz, hv, q⟩ => ⟨_, PSs.nox (hb iz A outer s H E hr), envT_start hv, meets_start (Ri iz) rfl (fun _ h => h) rfl rfl q⟩
end
section
variable {X : Cx} {ρ : Rho} {a b c : Expr} {pos : Pos} {rest : List Expr} {φ : Prop} {body orelse : List Stmt} {D : TEnds}
/-- a test of which it is known what its truth says -/
def tTI (ρ : Rho) (φ : Prop) : TT := fun σ H Q => EnvT H σ ρ ∧ ∀ b H', (b = true → φ) → Gr H H' → Q b H'
theorem tw_andI {k : Bool} (h : PT X a (tTB ρ k)) (hb : PW X (.BoolOp .And (b :: rest) pos) (tTU ρ)) : PW X (.BoolOp .And (a :: b :: rest) pos) (tTI ρ (k = true)) := pw_weak (pw_and h hb) fun σ H Q q => ⟨q.1, fun H' g => by
  cases k with
  | true => exact iteT ⟨q.1.mono g, fun d H2 g2 => q.2 d H2 (fun _ => rfl) (g.trans g2)⟩
  | false => exact iteF (q.2 false H' (fun z => z) g)⟩
theorem ts_ifI (hc : PT X c (tTI ρ φ)) (h1 : φ → PSs X body (tS ρ D)) (h2 : PSs X orelse (tS ρ D)) : PS X (.If c body orelse pos) (tS ρ D) := by
  by_cases hp : φ
  · exact ps_weak (ps_if hc (h1 hp) h2) fun D0 σ H q => ⟨q.1, fun b H1 _ e1 => by
      cases b with
      | true => exact iteT ⟨q.1.mono e1, q.2.mono e1⟩
      | false => exact iteF ⟨q.1.mono e1, q.2.mono e1⟩⟩
  · exact ps_weak (ps_if hc pss_never h2) fun D0 σ H q => ⟨q.1, fun b H1 z e1 => by
      cases b with
      | true => exact absurd (z rfl) hp
      | false => exact iteF ⟨q.1.mono e1, q.2.mono e1⟩⟩
end
/-! ### the operators of tables -/
structure OpsWd (P : Program) (w : World) (K : PySem.W.Frag) (mg : Str → Option Value) (base : Heap) (CC : Addr → Prop) (tb C : Addr) : Prop where
  add : ∃ f fd, OpF K CC "add" f ∧ OpTup K CC "add" ∧ FnOk P w K mg base CX0 12 f fd ["self", "rule"] (spT (fun i : AdIx => [tyTab K CC i.T, tyD K (pairD i.p)]) (fun i => tyTab K (fun C => C = tb) ⟨i.T.ls, i.T.rs ++ [i.p], i.T.m⟩)) ∧ Binds K fd ["self", "rule"] [] ∧
    FnOk P w K mg base (L2.CX P w) 12 f fd ["self", "rule"] (spX (fun i : WxIx => [tyTab K CC i.T, tyD K (pairD i.p)]) C nuRule)
  sub : ∃ f fd, OpF K CC "sub" f ∧ OpTup K CC "sub" ∧ FnOk P w K mg base CX0 12 f fd ["self", "rule"] (spT (fun i : SuIx => [tyTab K CC i.T, tyD K (pairD (i.T.rs.getD i.k ("", "")))]) (fun i => tyTab K (fun C => C = tb) ⟨i.T.ls, i.T.rs.take i.k ++ i.T.rs.drop (i.k + 1), i.T.m⟩)) ∧ Binds K fd ["self", "rule"] []
  or_ : ∃ f fd, OpF K CC "or" f ∧ (∀ D E, CC D → E = tb → E = D ∨ PySem.W.subIn K (.ref E) (.ref D) = some false) ∧ FnOk P w K mg base CX0 11 f fd ["self", "other"] (spT (fun i : UnIx => [tyTab K CC i.T, tyTab K (fun C => C = tb) ⟨i.T.ls, i.rs2, i.m2⟩]) (fun i => tyTab K (fun C => C = tb) ⟨i.T.ls, i.T.rs ++ moreR i.T.rs i.rs2, i.T.m⟩)) ∧ Binds K fd ["self", "other"] []
structure NoIx where
  T : Tb
  O : TbOk T
  len : T.rs.length ≤ 7
  ll : T.ls.length ≤ 4
/-- what a step tells: a new table, or that it is refused -/
def NxOk (T : Tb) : Option Tb → Prop
  | none => True
  | some U => TbOk U ∧ U.ls = T.ls ∧ U.rs.length ≤ 20
abbrev gaveD (d : PyData) : PyData := .tuple [.str "gave", d]
def nxTy (K : PySem.W.Frag) (CC : Addr → Prop) : Option Tb → Ty
  | none => tyP3 K (tyD K refD) (tyD K refD) (tyD K refD)
  | some U => tyP3 K (tyP K (tyD K (.str "gave")) (tyTab K CC U)) (tyD K (gaveD (tbD U))) (tyD K (gaveD (tbD U)))
def tyNext (K : PySem.W.Frag) (CC : Addr → Prop) (T : Tb) : Ty := tyEx (NxOk T) (nxTy K CC)
theorem tyTab_le {K : PySem.W.Frag} {CC C2 : Addr → Prop} {T : Tb} (h : ∀ C, CC C → C2 C) : (tyTab K CC T).le (tyTab K C2 T) := tyO_le h fun _ _ => rfl
theorem tyP_le {K : PySem.W.Frag} {A B C D : Ty} (h1 : A.le C) (h2 : B.le D) : (tyP K A B).le (tyP K C D) := fun H v ⟨a, x, y, e1, e2, e3, e4⟩ => ⟨a, x, y, e1, e2, h1 H x e3, h2 H y e4⟩
section
variable {P : Program} {w : World} {K : PySem.W.Frag} {mg : Str → Option Value} {base : Heap} {f Rw tb C c : Addr} {fd : FuncData} {CC : Addr → Prop}
abbrev CStep (P : Program) (w : World) (K : PySem.W.Frag) (mg : Str → Option Value) (base : Heap) (CC : Addr → Prop) (k : Nat) (x : Str) : Prop := Cal P w K mg base k x (fun i : NoIx => [tyFeed, tyTab K CC i.T, tyD K (tbD i.T)]) (fun i => tyNext K CC i.T)
abbrev moN : List Str := ["_law_feed_here", "_law_table", "_law_triple", "_law_pair", "_law_due", "_law_made"]
theorem sc70 : FnScope moN ["_law_feed_here", "_law_table", "_law_triple"] (scopeAt 70) := ⟨rfl, rfl, rfl, by decide +kernel, rfl, by decide +kernel, by decide +kernel⟩
theorem ok_law_more (F : DefC K "_law_more" 70 f fd c) (hm : mg "_law_more" = some (.ref f)) (B : Free mg) (Hd : HeardF P w K mg base C) (TF : TabF base mg c (((envOfC "_law_more" (scopeAt 70) 0 f (.ref c)).qual) ++ "<lambda>")) (hC : CC tb) (W : OpsWd P w K mg base CC tb C) (c57 : CDraw P w K mg base) (c58 : CPick P w K mg base) (c60 : CPiece P w K mg base) (c43 : CWith P w K mg base) (cx43 : CWithX P w K mg base C) : CStep P w K mg base CC 15 "_law_more" := by
  refine calC_of F hm sc70 (fun kV doc pm an cdv ct us hl => ?_) (fun _ => rfl) fun i A outer s H E hr => ?_
  · match us, hl with
    | [a, b, d], _ => rfl
  · obtain ⟨T, O, h7, h4⟩ := i
    obtain ⟨fa, fda, Oa, Ta, Fa, ba, FaX⟩ := W.add
    have hu := units65 hr
    have hlr : (T.rs.map pairD).length = T.rs.length := List.length_map ..
    have e2 : lenD (rulesD T.rs) = some T.rs.length := congrArg some hlr
    let pcx := PcIx.mk T.ls 3 O.ls.ne O.ls.len (by decide) (by decide)
    have pcR : ∀ p : Rule, PcOk T.ls 3 p.1 ∧ PcOk T.ls 3 p.2 → RuleOf T.ls p := fun p h => ⟨⟨h.1.of, Nat.le_trans h.1.len (by decide)⟩, ⟨h.2.of, Nat.le_trans h.2.len (by decide)⟩, h.1.ne, h.2.ne⟩
    let Tp : Ty := tyEx (fun p : Rule => RuleOf T.ls p) fun p => tyD K (pairD p)
    refine ts_cons (ts_set 3 (T := Tp) (te_le (te_pairX (P := PcOk T.ls 3) (Q := PcOk T.ls 3) (te_fn (i := pcx) c60 (hr.mono (by decide)) (ta_cons (te_var 0) (ta_cons (te_ixT (d := letD T.ls) (te_var 2 (T := tyD K (tbD T))) te_int rfl) (ta_one te_int rfl)))) (te_fn (i := pcx) c60 (hr.mono (by decide)) (ta_cons (te_var 0) (ta_cons (te_ixT (d := letD T.ls) (te_var 2 (T := tyD K (tbD T))) te_int rfl) (ta_one te_int rfl))))) (tyEx_map id pcR fun p _ => Ty.le.rfl)) ?_ sc70.nd)
    have rne : decide (((0 : Int)) < ((T.rs.length : Nat) : Int)) = true → T.rs ≠ [] := fun h z => by
      have := of_decide_eq_true h
      rw [z] at this
      exact absurd this (by decide)
    refine let_c (fun cont => ts_cons (ts_ifI (PW.pt (tw_andI (tt_gt (te_len (d := rulesD T.rs) (n := T.rs.length) B.len (te_ixT (d := rulesD T.rs) (te_var 2 (T := tyD K (tbD T))) te_int rfl) e2 (by omega)) te_int) (tw_and1U (tt_eqU (te_le (te_fn (i := DrIx.mk 4 (by decide) (by decide)) c57 (hr.mono (by decide)) (ta_cons (te_var 0) (ta_one te_int rfl))) lt_I) (te_cI (p := anyI) True.intro))))) (fun h => ts_one (ts_set 3 (T := Tp) ?_ cont sc70.nd)) (ts_nil cont))) ?_
    · have pn : itemsD (rulesD T.rs) ≠ [] := by
        show T.rs.map pairD ≠ []
        simpa using rne h
      refine te_le (te_fn (i := PkIx.mk (rulesD T.rs) pn (by show (T.rs.map pairD).length < _; omega)) c58 (hr.mono (by decide)) (ta_cons (te_var 0) (ta_one (te_ixT (d := rulesD T.rs) (te_var 2 (T := tyD K (tbD T))) te_int rfl) rfl))) fun H v ⟨d, hd, hv⟩ => ?_
      obtain ⟨p, hp, e⟩ := List.mem_map.mp (show d ∈ T.rs.map pairD from hd)
      subst e
      exact ⟨p, O.rs p hp, hv⟩
    refine ts_open 3 rfl fun p hp => ?_
    have sp : SeqAt.shaped (pairD p) = true := (shD_pair (hp.shD O.ls).1 (hp.shD O.ls).2).shaped
    have isin : ∀ {X : Cx} {ρ : Rho} {a b : Expr} {pos : Pos}, X.A.units + 65 < cLine → PE X a (tT ρ (tyD X.K (pairD p))) → PE X b (tT ρ (tyD X.K (rulesD T.rs))) → behindInMarks .In b = false → PT X (.Compare a [.In] [b] pos) (tTB ρ (decide (p ∈ T.rs))) := fun h1 h2 h3 h4 => tt_is (tt_inT h1 h2 (te_le h3 tyD_n) sp (shD_rs O) h4) inD_pairs
    refine ts_cons (ts_set 4 (T := tyD K (gaveD (tbD ⟨T.ls, T.rs ++ [p], T.m⟩))) (te_tup (ds := [.str "gave", tbD ⟨T.ls, T.rs ++ [p], T.m⟩]) (ta_cons te_str (ta_one (te_tup (ds := [letD T.ls, rulesD (T.rs ++ [p]), .str T.m]) (ta_cons (te_ixT (d := letD T.ls) (te_var 2 (T := tyD K (tbD T))) te_int rfl) (ta_cons (te_d (te_addT (ds := T.rs.map pairD) (es := [pairD p]) (te_ixT (d := rulesD T.rs) (te_var 2 (T := tyD K (tbD T))) te_int rfl) (te_tup (ds := [pairD p]) (ta_one (te_var 3) rfl)) (by show (T.rs.map pairD).length + 1 ≤ _; omega)) (by show PyData.tuple (T.rs.map pairD ++ [pairD p]) = PyData.tuple ((T.rs ++ [p]).map pairD); rw [List.map_append]; rfl)) (ta_one (te_ixT (d := .str T.m) (te_var 2 (T := tyD K (tbD T))) te_int rfl) rfl)))) rfl))) ?_ sc70.nd)
    refine ts_cons (ts_if (k := decide (p ∈ T.rs)) (isin hu (te_var 3) (te_ixT (d := rulesD T.rs) (te_var 2 (T := tyD K (tbD T))) te_int rfl) rfl) (fun h => ?_) fun h => ts_nil ?_)
    · have hin : p ∈ T.rs := of_decide_eq_true h
      refine ts_one (ts_set 4 (T := tyD K refD) (te_tup (ds := [.str "NotUsable", .str "rule", .int (-1)]) (ta_cons te_str (ta_cons te_str (ta_one (te_negI (te_int (i := 1))) rfl)))) ?_ sc70.nd)
      refine ts_cons (ts_set 5 (T := tyD K refD) (te_lamX (k := 6) rfl Hd TF rfl (hr.mono (by decide)) (LamX.lamS_by (sc := scopeAt 70) (by decide +kernel)) fun A1 outer1 s1 H1 E1 f1 c1 hr1 => tz_fn (i := WxIx.mk T p O hp hin) (Ts := [tyD K (tbD T), tyD K (pairD p)]) (Ds := [tyD K .none]) cx43 (hr1.mono (by decide)) (passes_call (takes_of rfl rfl rfl rfl) fun _ _ _ _ h => h) (ta_cons (te_var 2) (ta_one (te_var 3) rfl)) (fun H => ⟨.non, True.intro⟩) rfl) ?_ sc70.nd)
      refine ts_one (ts_ret (te_le (te_trip (ta_cons (te_lamX (k := 12) rfl Hd TF rfl (hr.mono (by decide)) (LamX.lamS_by (sc := scopeAt 70) (by decide +kernel)) fun A1 outer1 s1 H1 E1 f1 c1 hr1 => tz_binOT (i := WxIx.mk T p O hp hin) (te_var 1 (T := tyTab K CC T)) (te_var 3 (T := tyD K (pairD p))) Oa Ta FaX hr1 (passes_call (takes_of rfl rfl rfl rfl) fun _ _ _ _ h => h) ba rfl) (ta_cons (te_var 5) (ta_one (te_var 4) rfl)))) (tyEx_in (P := NxOk T) (T := nxTy K CC) none True.intro)))
    · have hno : p ∉ T.rs := of_decide_eq_false h
      have O2 : TbOk ⟨T.ls, T.rs ++ [p], T.m⟩ := tb_add O hp hno (by omega)
      refine ts_cons (ts_set 5 (T := tyD K (gaveD (tbD ⟨T.ls, T.rs ++ [p], T.m⟩))) (te_lam (k := 6) (T := tyD K (tbD ⟨T.ls, T.rs ++ [p], T.m⟩)) rfl Hd TF rfl (hr.mono (by decide)) (LamX.lamS_by (sc := scopeAt 70) (by decide +kernel)) gave_D fun A1 outer1 s1 H1 E1 f1 c1 hr1 => te_fnD (i := WrIx.mk T p O hp hno) (Ts := [tyD K (tbD T), tyD K (pairD p)]) (Ds := [tyD K .none]) c43 hr1 (ta_cons (te_var 2) (ta_one (te_var 3) rfl)) (fun H => ⟨.non, True.intro⟩) rfl) ?_ sc70.nd)
      refine ts_one (ts_ret (te_le (te_trip (ta_cons (te_lam (k := 12) (T := tyTab K (fun C => C = tb) ⟨T.ls, T.rs ++ [p], T.m⟩) (R := tyP K (tyD K (.str "gave")) (tyTab K CC ⟨T.ls, T.rs ++ [p], T.m⟩)) rfl Hd TF rfl (hr.mono (by decide)) (LamX.lamS_by (sc := scopeAt 70) (by decide +kernel)) (fun H v p e hv => gave_P H v p e (tyTab_le (fun C e => by rw [e]; exact hC) H v hv)) fun A1 outer1 s1 H1 E1 f1 c1 hr1 => te_le (te_binOT (i := AdIx.mk T p O hp hno O2) (te_var 1 (T := tyTab K CC T)) (te_var 3 (T := tyD K (pairD p))) Oa Ta Fa hr1 ba rfl) Ty.le.rfl) (ta_cons (te_var 5) (ta_one (te_var 4) rfl)))) (tyEx_in (P := NxOk T) (T := nxTy K CC) (some ⟨T.ls, T.rs ++ [p], T.m⟩) ⟨O2, rfl, by rw [List.length_append]; show T.rs.length + 1 ≤ 20; omega⟩)))
end
end K14
/-! MM: less, united. -/
namespace K14
open PySem PySem.Spec PyProof.Rows L2
theorem ts_up {X : Cx} {ρ : Rho} {D : TEnds} {sts : List Stmt} {A B : Ty} (i : Nat) (hi : ρ[i]? = some (some A)) (l : A.le B) (h : PSs X sts (tS (ρ.set i (some B)) D)) : PSs X sts (tS ρ D) :=
  ts_less h fun H σ g => by
    obtain ⟨x, h1, h2⟩ := g.get hi
    have e : σ.set i (some x) = σ := by
      obtain ⟨hl, h3⟩ := List.getElem?_eq_some_iff.mp h1
      rw [← h3]
      exact List.set_getElem_self ..
    have := g.set (l H x h2) i
    rw [e] at this
    exact this
structure MakeWd (P : Program) (w : World) (K : PySem.W.Frag) (mg : Str → Option Value) (base : Heap) (CC : Addr → Prop) (tb : Addr) : Prop where
  has : CC tb
  hm : mg "Table" = some (.ref tb)
  tab : ∃ f fd, Mk K tb f ∧ FTabInit P w K mg base CC f fd ∧ BTabInit K fd
section
variable {P : Program} {w : World} {K : PySem.W.Frag} {mg : Str → Option Value} {base : Heap} {f Rw tb C c : Addr} {fd : FuncData} {CC : Addr → Prop}
abbrev CLess (P : Program) (w : World) (K : PySem.W.Frag) (mg : Str → Option Value) (base : Heap) (CC : Addr → Prop) : Prop := Cal P w K mg base 15 "_law_less" (fun i : { i : NoIx // i.T.rs ≠ [] } => [tyFeed, tyTab K CC i.1.T, tyD K (tbD i.1.T)]) (fun i => tyNext K CC i.1.T)
abbrev leN : List Str := ["_law_feed_here", "_law_table", "_law_triple", "_law_k", "_law_due", "_law_made"]
theorem sc71 : FnScope leN ["_law_feed_here", "_law_table", "_law_triple"] (scopeAt 71) := ⟨rfl, rfl, rfl, by decide +kernel, rfl, by decide +kernel, by decide +kernel⟩
theorem ok_law_less (F : DefC K "_law_less" 71 f fd c) (hm : mg "_law_less" = some (.ref f)) (B : Free mg) (Hd : HeardF P w K mg base C) (TF : TabF base mg c (((envOfC "_law_less" (scopeAt 71) 0 f (.ref c)).qual) ++ "<lambda>")) (hC : CC tb) (W : OpsWd P w K mg base CC tb C) (c57 : CDraw P w K mg base) (c44 : CWithout P w K mg base) : CLess P w K mg base CC := by
  refine calC_of F hm sc71 (fun kV doc pm an cdv ct us hl => ?_) (fun _ => rfl) fun i A outer s H E hr => ?_
  · match us, hl with
    | [a, b, d], _ => rfl
  · obtain ⟨⟨T, O, h7, h4⟩, hne⟩ := i
    have hne : T.rs ≠ [] := hne
    obtain ⟨fa, fda, Oa, Ta, Fa, ba⟩ := W.sub
    have hlr : (T.rs.map pairD).length = T.rs.length := List.length_map ..
    have e2 : lenD (rulesD T.rs) = some T.rs.length := congrArg some hlr
    refine ts_cons (ts_set 3 (T := tyLt K T.rs.length) (te_fn (i := DrIx.mk T.rs.length (List.length_pos_iff.mpr hne) (by omega)) c57 (hr.mono (by decide)) (ta_cons (te_var 0) (ta_one (te_len (d := rulesD T.rs) (n := T.rs.length) B.len (te_ixT (d := rulesD T.rs) (te_var 2 (T := tyD K (tbD T))) te_int rfl) e2 (by omega)) rfl))) ?_ sc71.nd)
    refine ts_open 3 rfl fun k hk => ?_
    have O2 : TbOk ⟨T.ls, T.rs.take k ++ T.rs.drop (k + 1), T.m⟩ := tb_cut O k
    have at_ : atI (T.rs.map pairD) ((k : Nat) : Int) = some (pairD (T.rs.getD k ("", ""))) := atI_nat (j := k) (by rw [List.getElem?_map, List.getD_eq_getElem?_getD, List.getElem?_eq_getElem hk]; rfl)
    have cut2 : PyData.tuple (cutL (T.rs.map pairD) none (some ((k : Nat) : Int)) ++ cutL (T.rs.map pairD) (some ((k + 1 : Nat) : Int)) none) = rulesD (T.rs.take k ++ T.rs.drop (k + 1)) := by
      rw [cutL_to, cutL_from]
      show _ = PyData.tuple ((T.rs.take k ++ T.rs.drop (k + 1)).map pairD)
      rw [List.map_append, List.map_take, List.map_drop]
    have k1 := cutL_len (T.rs.map pairD) none (some ((k : Nat) : Int))
    have k2 := cutL_len (T.rs.map pairD) (some (((k : Nat) : Int) + 1)) none
    refine ts_cons (ts_set 4 (T := tyD K (gaveD (tbD ⟨T.ls, T.rs.take k ++ T.rs.drop (k + 1), T.m⟩))) (te_tup (ds := [.str "gave", tbD ⟨T.ls, T.rs.take k ++ T.rs.drop (k + 1), T.m⟩]) (ta_cons te_str (ta_one (te_tup (ds := [letD T.ls, rulesD (T.rs.take k ++ T.rs.drop (k + 1)), .str T.m]) (ta_cons (te_ixT (d := letD T.ls) (te_var 2 (T := tyD K (tbD T))) te_int rfl) (ta_cons (te_d (te_addT (te_slT (ds := T.rs.map pairD) (te_ixT (d := rulesD T.rs) (te_var 2 (T := tyD K (tbD T))) te_int rfl) to_none (to_some (te_var 3))) (te_slT (ds := T.rs.map pairD) (te_ixT (d := rulesD T.rs) (te_var 2 (T := tyD K (tbD T))) te_int rfl) (to_some (te_addI (te_var 3) (te_int (i := 1)))) to_none) (by omega)) cut2) (ta_one (te_ixT (d := .str T.m) (te_var 2 (T := tyD K (tbD T))) te_int rfl) rfl)))) rfl))) ?_ sc71.nd)
    refine ts_cons (ts_set 5 (T := tyD K (gaveD (tbD ⟨T.ls, T.rs.take k ++ T.rs.drop (k + 1), T.m⟩))) (te_lam (k := 3) (T := tyD K (tbD ⟨T.ls, T.rs.take k ++ T.rs.drop (k + 1), T.m⟩)) rfl Hd TF rfl (hr.mono (by decide)) (LamX.lamS_by (sc := scopeAt 71) (by decide +kernel)) gave_D fun A1 outer1 s1 H1 E1 f1 c1 hr1 => te_fn (i := WoIx.mk T k O hk) c44 hr1 (ta_cons (te_var 2) (ta_one (te_var 3) rfl))) ?_ sc71.nd)
    refine ts_one (ts_ret (te_le (te_trip (ta_cons (te_lam (k := 12) (T := tyTab K (fun C => C = tb) ⟨T.ls, T.rs.take k ++ T.rs.drop (k + 1), T.m⟩) (R := tyP K (tyD K (.str "gave")) (tyTab K CC ⟨T.ls, T.rs.take k ++ T.rs.drop (k + 1), T.m⟩)) rfl Hd TF rfl (hr.mono (by decide)) (LamX.lamS_by (sc := scopeAt 71) (by decide +kernel)) (fun H v p e hv => gave_P H v p e (tyTab_le (fun C e => by rw [e]; exact hC) H v hv)) fun A1 outer1 s1 H1 E1 f1 c1 hr1 => te_le (te_binOT (i := SuIx.mk T k O hk O2) (te_var 1 (T := tyTab K CC T)) (te_ixT (d := pairD (T.rs.getD k ("", ""))) (te_ixT (d := rulesD T.rs) (te_var 2 (T := tyD K (tbD T))) te_int rfl) (te_var 3) at_) Oa Ta Fa hr1 ba rfl) Ty.le.rfl) (ta_cons (te_var 5) (ta_one (te_var 4) rfl)))) (tyEx_in (P := NxOk T) (T := nxTy K CC) (some ⟨T.ls, T.rs.take k ++ T.rs.drop (k + 1), T.m⟩) ⟨O2, rfl, ?_⟩)))
    show (T.rs.take k ++ T.rs.drop (k + 1)).length ≤ 20
    rw [List.length_append, List.length_take, List.length_drop]
    omega
/-! united -/
abbrev unN : List Str := ["_law_feed_here", "_law_table", "_law_triple", "_law_pairs", "_law_late", "_law_other", "_law_more_here", "_law_pair", "_law_due"]
theorem sc72 : FnScope unN ["_law_feed_here", "_law_table", "_law_triple"] (scopeAt 72) := ⟨rfl, rfl, rfl, by decide +kernel, rfl, by decide +kernel, by decide +kernel⟩
theorem ok_law_united (F : DefC K "_law_united" 72 f fd c) (hm : mg "_law_united" = some (.ref f)) (B : Free mg) (Hd : HeardF P w K mg base C) (TF : TabF base mg c (((envOfC "_law_united" (scopeAt 72) 0 f (.ref c)).qual) ++ "<lambda>")) (W : OpsWd P w K mg base CC tb C) (Mw : MakeWd P w K mg base CC tb) (c61 : CLRules P w K mg base) (c43 : CWith P w K mg base) : CStep P w K mg base CC 15 "_law_united" := by
  refine calC_of F hm sc72 (fun kV doc pm an cdv ct us hl => ?_) (fun _ => rfl) fun i A outer s H E hr => ?_
  · match us, hl with
    | [a, b, d], _ => rfl
  · obtain ⟨T, O, h7, h4⟩ := i
    have hu := units65 hr
    obtain ⟨fa, fda, Oa, Sa, Fa, ba⟩ := W.or_
    obtain ⟨ft, fdt, Mt, Ft, bt⟩ := Mw.tab
    have hlr : (T.rs.map pairD).length = T.rs.length := List.length_map ..
    refine ts_cons (ts_par (i := 3) (j := 4) (A := tyRules K T.ls) (B := tyD K (tbD T)) (ta_cons (te_fn (i := (Subtype.mk T.ls O.ls : { cs : List Nat // LetOk cs })) c61 (hr.mono (by decide)) (ta_cons (te_var 0) (ta_cons (te_ixT (d := letD T.ls) (te_var 2 (T := tyD K (tbD T))) te_int rfl) (ta_cons (te_le (te_int (i := 3)) (fun H v hv => ⟨3, by decide, hv⟩)) (ta_one te_int rfl))))) (ta_one (te_var 2) rfl)) ?_ rfl sc72.nd)
    refine ts_open 3 rfl fun rs hrs => ?_
    have hR := hrs.rule
    have Ou : TbOk ⟨T.ls, rs, "rightmost"⟩ := ⟨O.ls, hR, hrs.nd, Nat.le_trans hrs.len (by decide), (by decide : ("rightmost" : Str) ∈ manners)⟩
    have hl2 : (rs.map pairD).length = rs.length := List.length_map ..
    have h6 := hrs.len
    refine ts_cons (ts_set 5 (T := tyTab K (fun C => C = tb) ⟨T.ls, rs, "rightmost"⟩) (te_le (te_makeK (i := (Subtype.mk ⟨T.ls, rs, "rightmost"⟩ Ou : TbI)) Mt Ft Mw.has (hr.mono (by decide)) Mw.hm bt (Ts := [tyD K (letD T.ls), tyD K (rulesD rs)]) (Ds := [tyD K (.str "rightmost")]) (ta_cons (te_ixT (d := letD T.ls) (te_var 2 (T := tyD K (tbD T))) te_int rfl) (ta_one (te_var 3) rfl)) rfl (tk_cons te_str tk_nil) rfl rfl) Ty.le.rfl) ?_ sc72.nd)
    have ml := moreR_len T.rs rs
    have hml : ((moreR T.rs rs).map pairD).length = (moreR T.rs rs).length := List.length_map ..
    refine ts_cons (ts_setLc (n := (rs.map pairD).length) (item := itD K (rs.map pairD)) (p := fun j => !decide (rs.getD j ("", "") ∈ T.rs)) (el := fun j => tyD K (pairD (rs.getD j ("", "")))) (nxt := fun j => _) (j := 6) [("_law_pair", 7)] rfl sc72.nd (ti_tup (te_var 3 (T := tyD K (rulesD rs)))) (by omega) (blkOk_by (N := unN) (sc := scopeAt 72) (by decide +kernel))
      (lcokIf (fun j hj s' H' C cl fp => tg_name 7 sc72.nd (by decide)) (fun j hj s' H' C cl fp => ?_) (fun j hj hb s' H' C cl fp => ?_)) (ts_up 6 (B := tyTL K ((moreR T.rs rs).map pairD)) rfl (tyL_le ?_) ?_) rfl)
    · have hj : j < rs.length := by rw [← hl2]; exact hj
      have e : (rs.map pairD).getD j .none = pairD (rs.getD j ("", "")) := by
        rw [getD_map pairD .none rs j hj, List.getD_eq_getElem?_getD, List.getElem?_eq_getElem hj]
        rfl
      have hp : RuleOf T.ls (rs.getD j ("", "")) := by
        rw [List.getD_eq_getElem?_getD, List.getElem?_eq_getElem hj]
        exact hR _ (List.getElem_mem hj)
      refine tt_is (tt_notInT (d := pairD (rs.getD j ("", ""))) (ds := T.rs.map pairD) hu (te_d (te_var 7) e) (te_le (te_ixT (d := rulesD T.rs) (te_var 2 (T := tyD K (tbD T))) te_int rfl) tyD_n) (shD_pair (hp.shD O.ls).1 (hp.shD O.ls).2).shaped (shD_rs O)) ?_
      rw [inD_pairs]
    · have hj : j < rs.length := by rw [← hl2]; exact hj
      refine te_d (te_var 7) ?_
      rw [getD_map pairD .none rs j hj, List.getD_eq_getElem?_getD, List.getElem?_eq_getElem hj]
      rfl
    · rw [took_D, hl2]
      refine congrArg (List.map (tyD K)) ?_
      exact took_filter (fun p => !decide (p ∈ T.rs)) pairD ("", "") rs (fun j => !decide (rs.getD j ("", "") ∈ T.rs)) (fun j => pairD (rs.getD j ("", ""))) (fun _ _ => rfl) (fun _ _ => rfl)
    · have mR : ∀ p ∈ moreR T.rs rs, RuleOf T.ls p := fun p hp => hR p (moreR_mem.mp hp).1
      have mN : ∀ p ∈ moreR T.rs rs, p ∉ T.rs := fun p hp => (moreR_mem.mp hp).2
      have mD : (moreR T.rs rs).Nodup := moreR_nd hrs.nd
      generalize hmr : moreR T.rs rs = ms at mR mN mD ml hml
      let rho := fun (j : Nat) (x y : Option Ty) => ([some tyFeed, some (tyTab K CC T), some (tyD K (tbD T)), some (tyD K (rulesD rs)), some (tyD K (tbD ⟨T.ls, T.rs ++ ms.take j, T.m⟩)), some (tyTab K (fun C => C = tb) ⟨T.ls, rs, "rightmost"⟩), some (tyTL K (ms.map pairD)), x, y] : Rho)
      have r0 : tbD T = tbD ⟨T.ls, T.rs ++ ms.take 0, T.m⟩ := by rw [List.take_zero, List.append_nil]
      refine ts_cons (ts_for (n := (ms.map pairD).length) (item := itD K (ms.map pairD)) (vs := [7]) (fun j ρ' => ∃ x y, ρ' = rho j x y) (fun j ρ' => ρ'.set 7 (some (itD K (ms.map pairD) j)))
        PassesOwn.never rfl (ti_list (te_le (te_var 6) tyTL_le)) ⟨none, none, by simp only [rho]; rw [← r0]; rfl⟩ (fun ρ' ⟨x, y, e⟩ => ?_) (fun j ρ' hj _ => tg_name 7 sc72.nd (by decide)) fun j ρ' hj ⟨x, y, e⟩ => ?_)
      · subst e
        rw [hml]
        have rl : tbD ⟨T.ls, T.rs ++ ms.take ms.length, T.m⟩ = tbD ⟨T.ls, T.rs ++ ms, T.m⟩ := by rw [List.take_length]
        have O2 : TbOk ⟨T.ls, T.rs ++ ms, T.m⟩ := tb_app O mR mN mD (by omega)
        refine ts_cons (ts_set 8 (T := tyD K (gaveD (tbD ⟨T.ls, T.rs ++ ms, T.m⟩))) (te_tup (ds := [.str "gave", tbD ⟨T.ls, T.rs ++ ms, T.m⟩]) (ta_cons te_str (ta_one (te_tup (ds := [letD T.ls, rulesD (T.rs ++ ms), .str T.m]) (ta_cons (te_ixT (d := letD T.ls) (te_var 2 (T := tyD K (tbD T))) te_int rfl) (ta_cons (te_d (te_addT (ds := T.rs.map pairD) (es := ms.map pairD) (te_ixT (d := rulesD T.rs) (te_var 2 (T := tyD K (tbD T))) te_int rfl) (te_tupleL (ds := ms.map pairD) B.tuple (te_le (te_var 6) tyTL_le)) (by omega)) (by show PyData.tuple (T.rs.map pairD ++ ms.map pairD) = PyData.tuple ((T.rs ++ ms).map pairD); rw [List.map_append])) (ta_one (te_ixT (d := .str T.m) (te_var 2 (T := tyD K (tbD T))) te_int rfl) rfl)))) rfl))) ?_ sc72.nd)
        refine ts_one (ts_ret (te_le (te_trip (ta_cons (te_lam (k := 11) (T := tyTab K (fun C => C = tb) ⟨T.ls, T.rs ++ ms, T.m⟩) (R := tyP K (tyD K (.str "gave")) (tyTab K CC ⟨T.ls, T.rs ++ ms, T.m⟩)) rfl Hd TF rfl (hr.mono (by decide)) (LamX.lamS_by (sc := scopeAt 72) (by decide +kernel)) (fun H v p e hv => gave_P H v p e (tyTab_le (fun C e => by rw [e]; exact Mw.has) H v hv)) fun A1 outer1 s1 H1 E1 f1 c1 hr1 => te_le (te_binOO (i := UnIx.mk T rs "rightmost" O Ou (by rw [hmr]; exact O2) (Nat.le_trans h4 (by decide))) (te_var 1 (T := tyTab K CC T)) (te_var 5 (T := tyTab K (fun C => C = tb) ⟨T.ls, rs, "rightmost"⟩)) Oa ⟨fun D hD => by rw [hD]; exact Oa.first _ Mw.has, fun D hD => by rw [hD]; exact Oa.at_ _ Mw.has, fun D hD => by rw [hD]; exact Oa.ref _ Mw.has, Oa.fn⟩ Sa Fa hr1 ba rfl) (fun H v hv => by rw [← hmr]; exact hv)) (ta_cons (te_tup (ds := [.str "gave", tbD ⟨T.ls, T.rs ++ ms, T.m⟩]) (ta_cons te_str (ta_one (te_d (te_var 4) rl) rfl))) (ta_one (te_var 8) rfl)))) (tyEx_in (P := NxOk T) (T := nxTy K CC) (some ⟨T.ls, T.rs ++ ms, T.m⟩) ⟨O2, rfl, by rw [List.length_append]; omega⟩)))
      · subst e
        rw [hml] at hj
        have e7 : itD K (ms.map pairD) j = tyD K (pairD ms[j]) := by
          show tyD K _ = _
          rw [getD_map pairD .none _ j hj]
        rw [e7]
        have Oj : TbOk ⟨T.ls, T.rs ++ ms.take j, T.m⟩ := tb_app O (fun p hp => mR p (List.mem_of_mem_take hp)) (fun p hp => mN p (List.mem_of_mem_take hp)) (mD.sublist (List.take_sublist j ms)) (by rw [List.length_take]; omega)
        have nj : ms[j] ∉ T.rs ++ ms.take j := fun z => by
          rcases List.mem_append.mp z with z | z
          · exact mN _ (List.getElem_mem hj) z
          · obtain ⟨q, hq, ej⟩ := List.mem_iff_getElem.mp z
            rw [List.length_take] at hq
            rw [List.getElem_take] at ej
            have q3 : q = j := (List.getElem_inj mD).mp ej
            omega
        refine ts_one (ts_set 4 (T := tyD K (tbD ⟨T.ls, T.rs ++ ms.take (j + 1), T.m⟩)) (te_d (te_fnD (i := WrIx.mk ⟨T.ls, T.rs ++ ms.take j, T.m⟩ ms[j] Oj (mR _ (List.getElem_mem hj)) nj) (Ts := [tyD K (tbD ⟨T.ls, T.rs ++ ms.take j, T.m⟩), tyD K (pairD ms[j])]) (Ds := [tyD K .none]) c43 (hr.mono (by decide)) (ta_cons (te_var 4) (ta_one (te_var 7) rfl)) (fun H => ⟨.non, True.intro⟩) rfl) ?_) ⟨_, _, rfl⟩ sc72.nd)
        rw [took_succ' _ _ hj, ← List.append_assoc]
end
end K14
/-! MN: next_object. -/
namespace K14
open PySem PySem.Spec PyProof.Rows L2
structure SubWd (P : Program) (w : World) (K : PySem.W.Frag) (mg : Str → Option Value) (base : Heap) (CC : Addr → Prop) : Prop where
  once : ∃ D f fd, CC D ∧ mg "Once" = some (.ref D) ∧ Mk K D f ∧ FnOk P w K mg base CX0 10 f fd ["self", "letters", "rules"] (spI (fun C => C = D) (fun i : { T : Tb // TbOk T ∧ T.m = "once" } => [tyD K (letD i.1.ls), tyD K (rulesD i.1.rs)]) (fun i => tabF K i.1)) ∧ Binds K fd ["self", "letters", "rules"] []
  mir : ∃ D f fd, CC D ∧ mg "Mirrored" = some (.ref D) ∧ Mk K D f ∧ FnOk P w K mg base CX0 10 f fd ["self", "letters", "rules", "manner"] (spI (fun C => C = D) (fun i : { T : Tb // TbOk T ∧ T.m ≠ "once" ∧ TbOk (mirT T) } => [tyD K (letD i.1.ls), tyD K (rulesD i.1.rs), tyD K (.str i.1.m)]) (fun i => mirF K i.1)) ∧ KBn K fd ["self", "letters", "rules", "manner"] 3 ["manner"] (fun us ws => us ++ ws) (fun vs zs => vs ++ zs)
abbrev turnL : List Str := ["ranked", "rightranked", "ranked", "leftmost", "rightmost", "leftmost"]
theorem turn_at {m : Str} (h : m ∈ manners) (ho : m ≠ "once") : ∃ j : Nat, (turnL.map PyData.str)[j]? = some (.str m) ∧ (∀ k z, k < j → (turnL.map PyData.str)[k]? = some z → PyData.eqv z (.str m) = false) ∧ atI (turnL.map PyData.str) (((j : Nat) : Int) + 1) = some (.str (mirM m)) := by
  have t : ∀ (j : Nat) (m : Str), ((turnL.take j).all fun y => !decide (y = m)) = true → ∀ k z, k < j → (turnL.map PyData.str)[k]? = some z → PyData.eqv z (.str m) = false := fun j m h k z hk hz => by
    rw [List.getElem?_map] at hz
    cases hq : turnL[k]? with
    | none => rw [hq] at hz; cases hz
    | some y =>
      rw [hq] at hz
      obtain rfl := Option.some.inj hz
      have hy : y ∈ turnL.take j := by
        obtain ⟨hl, e⟩ := List.getElem?_eq_some_iff.mp hq
        rw [← e]
        exact List.mem_take_iff_getElem.mpr ⟨k, by omega, rfl⟩
      have := List.all_eq_true.mp h y hy
      have hne : y ≠ m := by simpa using this
      show decide (y = m) = false
      exact decide_eq_false hne
  rcases man_cases h ho with e | e | e | e <;> subst e
  · exact ⟨0, rfl, t 0 _ (by decide +kernel), rfl⟩
  · exact ⟨1, rfl, t 1 _ (by decide +kernel), rfl⟩
  · exact ⟨3, rfl, t 3 _ (by decide +kernel), rfl⟩
  · exact ⟨4, rfl, t 4 _ (by decide +kernel), rfl⟩
theorem mirF_le {K : PySem.W.Frag} {CC C2 : Addr → Prop} {T : Tb} (h : ∀ C, CC C → C2 C) : (tyO CC (mirF K T)).le (tyTab K C2 (mirT T)) := tyO_le h fun f hf => by
  show (putT "own_told" (tyD K (tbD T)) (tabF K (mirT T))).lookup f = (tabF K (mirT T)).lookup f
  show ([("own_form", tyD K (tbD (mirT T))), ("own_rules", tyD K (rulesD (mirT T).rs)), ("own_told", tyD K (tbD T))] : List (Str × Ty)).lookup f = ([("own_form", tyD K (tbD (mirT T))), ("own_rules", tyD K (rulesD (mirT T).rs))] : List (Str × Ty)).lookup f
  by_cases h1 : (f == ("own_form" : Str)) = true
  · simp [List.lookup, h1]
  · by_cases h2 : (f == ("own_rules" : Str)) = true
    · simp [List.lookup, h1, h2]
    · have h3 : (f == ("own_told" : Str)) = false := beq_eq_false_iff_ne.mpr hf
      have h1' : (f == ("own_form" : Str)) = false := by simpa using h1
      have h2' : (f == ("own_rules" : Str)) = false := by simpa using h2
      simp [List.lookup, h1', h2', h3]
section
variable {P : Program} {w : World} {K : PySem.W.Frag} {mg : Str → Option Value} {base : Heap} {f Rw tb C c : Addr} {fd : FuncData} {CC : Addr → Prop}
abbrev neN : List Str := ["_law_feed_here", "_law_table", "_law_triple", "_law_way", "_law_due", "_law_turned", "_law_pairs", "_law_pair", "_law_held"]
theorem sc73 : FnScope neN ["_law_feed_here", "_law_table", "_law_triple"] (scopeAt 73) := ⟨rfl, rfl, rfl, by decide +kernel, rfl, by decide +kernel, by decide +kernel⟩
theorem ok_law_next_object (F : DefC K "_law_next_object" 73 f fd c) (hm : mg "_law_next_object" = some (.ref f)) (B : Free mg) (Hd : HeardF P w K mg base C) (TF : TabF base mg c (((envOfC "_law_next_object" (scopeAt 73) 0 f (.ref c)).qual) ++ "<lambda>")) (Sw : SubWd P w K mg base CC)
    (c57 : CDraw P w K mg base) (c45 : CWithM P w K mg base) (c46 : CMirrored P w K mg base) (c70 : CStep P w K mg base CC 15 "_law_more") (c71 : CLess P w K mg base CC) (c72 : CStep P w K mg base CC 15 "_law_united") : CStep P w K mg base CC 16 "_law_next_object" := by
  refine calC_of F hm sc73 (fun kV doc pm an cdv ct us hl => ?_) (fun _ => rfl) fun i A outer s H E hr => ?_
  · match us, hl with
    | [a, b, d], _ => rfl
  · obtain ⟨T, O, h7, h4⟩ := i
    have hu := units65 hr
    obtain ⟨on, fo, fdo, Co, mo, Mo, Fo, bo⟩ := Sw.once
    obtain ⟨mi, fm, fdm, Cm, mm, Mm, Fm, bm⟩ := Sw.mir
    have hlr : (T.rs.map pairD).length = T.rs.length := List.length_map ..
    have e2 : lenD (rulesD T.rs) = some T.rs.length := congrArg some hlr
    refine ts_cons (ts_set 3 (T := tyLt K 6) (te_fn (i := DrIx.mk 6 (by decide) (by decide)) c57 (hr.mono (by decide)) (ta_cons (te_var 0) (ta_one te_int rfl))) ?_ sc73.nd)
    refine ts_open 3 rfl fun r hr6 => ?_
    -- less
    refine ts_cons (ts_if (k := decide (((r : Nat) : Int) = 0) && decide ((0 : Int) < ((T.rs.length : Nat) : Int))) (PW.pt (tw_and (tt_eqI (te_var 3) te_int) fun _ => tw_and1 (tt_gt (te_len (d := rulesD T.rs) (n := T.rs.length) B.len (te_ixT (d := rulesD T.rs) (te_var 2 (T := tyD K (tbD T))) te_int rfl) e2 (by omega)) te_int))) (fun h => ?_) fun _ => ts_nil ?_)
    · rw [Bool.and_eq_true] at h
      have hne : T.rs ≠ [] := fun z => by
        have := of_decide_eq_true h.2
        rw [z] at this
        exact absurd this (by decide)
      exact ts_one (ts_ret (te_fn (i := (Subtype.mk (NoIx.mk T O h7 h4) hne : { i : NoIx // i.T.rs ≠ [] })) c71 hr (ta_cons (te_var 0) (ta_cons (te_var 1) (ta_one (te_var 2) rfl)))))
    -- united
    refine ts_cons (ts_if (k := decide (((r : Nat) : Int) = 1)) (tt_eqI (te_var 3) te_int) (fun h => ?_) fun _ => ts_nil ?_)
    · exact ts_one (ts_ret (te_fn (i := NoIx.mk T O h7 h4) c72 hr (ta_cons (te_var 0) (ta_cons (te_var 1) (ta_one (te_var 2) rfl)))))
    -- once
    refine ts_cons (ts_if (k := decide (((r : Nat) : Int) = 2)) (tt_eqI (te_var 3) te_int) (fun h => ?_) fun _ => ts_nil ?_)
    · have hom : ("once" : Str) ∈ manners := by decide
      have O2 : TbOk ⟨T.ls, T.rs, "once"⟩ := tb_man O hom
      refine ts_cons (ts_set 4 (T := tyD K (gaveD (tbD ⟨T.ls, T.rs, "once"⟩))) (te_tup (ds := [.str "gave", tbD ⟨T.ls, T.rs, "once"⟩]) (ta_cons te_str (ta_one (te_tup (ds := [letD T.ls, rulesD T.rs, .str "once"]) (ta_cons (te_ixT (d := letD T.ls) (te_var 2 (T := tyD K (tbD T))) te_int rfl) (ta_cons (te_ixT (d := rulesD T.rs) (te_var 2 (T := tyD K (tbD T))) te_int rfl) (ta_one te_str rfl)))) rfl))) ?_ sc73.nd)
      refine ts_one (ts_ret (te_le (te_trip (A := tyP K (tyD K (.str "gave")) (tyTab K CC ⟨T.ls, T.rs, "once"⟩)) (ta_cons (te_pair (ta_cons te_str (ta_one (te_le (te_make (Ds := []) (dvs := []) (i := (Subtype.mk ⟨T.ls, T.rs, "once"⟩ ⟨O2, rfl⟩ : { T : Tb // TbOk T ∧ T.m = "once" })) Mo Fo rfl (hr.mono (by decide)) mo bo .nil (ta_cons (te_ixT (d := letD T.ls) (te_var 2 (T := tyD K (tbD T))) te_int rfl) (ta_one (te_ixT (d := rulesD T.rs) (te_var 2 (T := tyD K (tbD T))) te_int rfl) rfl)) (fun _ => True.intro) rfl) (tyTab_le fun D e => by rw [e]; exact Co)) rfl))) (ta_cons (te_lam (k := 2) (T := tyD K (tbD ⟨T.ls, T.rs, "once"⟩)) rfl Hd TF rfl (hr.mono (by decide)) (LamX.lamS_by (sc := scopeAt 73) (by decide +kernel)) gave_D fun A1 outer1 s1 H1 E1 f1 c1 hr1 => te_fn (i := WmIx.mk T "once" hom) c45 hr1 (ta_cons (te_var 2) (ta_one te_str rfl))) (ta_one (te_var 4) rfl)))) (tyEx_in (P := NxOk T) (T := nxTy K CC) (some ⟨T.ls, T.rs, "once"⟩) ⟨O2, rfl, by show T.rs.length ≤ 20; omega⟩)))
    -- mirrored
    refine ts_cons (ts_if (k := decide (((r : Nat) : Int) = 3) && !decide (T.m = "once")) (PW.pt (tw_and (tt_eqI (te_var 3) te_int) fun _ => tw_and1 (tt_neS (te_ixT (d := .str T.m) (te_var 2 (T := tyD K (tbD T))) te_int rfl) te_str))) (fun h => ?_) fun _ => ts_nil ?_)
    · rw [Bool.and_eq_true] at h
      have ho : T.m ≠ "once" := fun z => by
        have := h.2
        rw [decide_eq_true z] at this
        cases this
      have O2 : TbOk (mirT T) := tb_mir O ho
      obtain ⟨j, j1, j2, j3⟩ := turn_at O.m ho
      refine ts_cons (ts_set 5 (T := tyD K (.list (turnL.map .str))) (te_le (te_lst (ds := turnL.map .str) (ta_cons te_str (ta_cons te_str (ta_cons te_str (ta_cons te_str (ta_cons te_str (ta_one te_str rfl))))))) tyTL_le) ?_ sc73.nd)
      refine ts_cons (ts_setLc (n := T.rs.length) (item := fun j => tyD K (pairD (T.rs.getD j ("", "")))) (p := fun _ => true) (el := fun j => tyD K (pairD (mirR (T.rs.getD j ("", ""))))) (nxt := fun j => _) (j := 6) [("_law_pair", 7)] rfl sc73.nd ?_ (by omega) (blkOk_by (N := neN) (sc := scopeAt 73) (by decide +kernel))
        (lcok (fun j hj s' H' C cl fp => tg_name 7 sc73.nd (by decide)) (fun j hj s' H' C cl fp => ?_)) (ts_up 6 (B := tyTL K ((T.rs.map mirR).map pairD)) rfl (tyL_le ?_) ?_) rfl)
      · refine pi_congr (ti_tup (te_ixT (d := rulesD T.rs) (te_var 2 (T := tyD K (tbD T))) te_int rfl)) hlr fun j hj => ?_
        rw [hlr] at hj
        show tyD K ((T.rs.map pairD).getD j .none) = _
        rw [getD_map pairD .none T.rs j hj, List.getD_eq_getElem?_getD, List.getElem?_eq_getElem hj]
        rfl
      · have hp : RuleOf T.ls (T.rs.getD j ("", "")) := by
          rw [List.getD_eq_getElem?_getD, List.getElem?_eq_getElem hj]
          exact O.rs _ (List.getElem_mem hj)
        exact te_tup (ds := [.str (revS (T.rs.getD j ("", "")).2), .str (revS (T.rs.getD j ("", "")).1)]) (ta_cons (te_revS (te_ixT (te_var 7 (T := tyD K (pairD (T.rs.getD j ("", ""))))) te_int rfl) (Nat.le_trans hp.r.len (by decide))) (ta_one (te_revS (te_ixT (te_var 7 (T := tyD K (pairD (T.rs.getD j ("", ""))))) te_int rfl) (Nat.le_trans hp.l.len (by decide))) rfl))
      · rw [took_D]
        refine congrArg (List.map (tyD K)) ?_
        rw [List.map_map]
        exact took_map (fun p => pairD (mirR p)) ("", "") T.rs (fun _ => true) (fun j => pairD (mirR (T.rs.getD j ("", "")))) (fun _ _ => rfl) (fun _ _ => rfl)
      · refine ts_cons (ts_set 4 (T := tyD K (gaveD (tbD (mirT T)))) (te_tup (ds := [.str "gave", tbD (mirT T)]) (ta_cons te_str (ta_one (te_tup (ds := [letD T.ls, rulesD (T.rs.map mirR), .str (mirM T.m)]) (ta_cons (te_ixT (d := letD T.ls) (te_var 2 (T := tyD K (tbD T))) te_int rfl) (ta_cons (te_tupleL (ds := (T.rs.map mirR).map pairD) B.tuple (te_le (te_var 6) tyTL_le)) (ta_one (te_ixL (ds := turnL.map .str) (te_var 5) (te_addI (te_indexD (ds := turnL.map .str) (d := .str T.m) (j := j) hu (te_var 5) (te_ixT (d := .str T.m) (te_var 2 (T := tyD K (tbD T))) te_int rfl) (by decide +kernel) (ShD.str (manners_ok _ O.m)).shaped j1 (by show decide (T.m = T.m) = true; exact decide_eq_true rfl) j2) te_int) j3) rfl)))) rfl))) ?_ sc73.nd)
        refine ts_cons (ts_set 8 (T := tyTab K CC (mirT T)) (te_le (te_makeK (i := (Subtype.mk T ⟨O, ho, O2⟩ : { T : Tb // TbOk T ∧ T.m ≠ "once" ∧ TbOk (mirT T) })) Mm Fm rfl (hr.mono (by decide)) mm bm (Ts := [tyD K (letD T.ls), tyD K (rulesD T.rs)]) (Ds := [tyD K (.str T.m)]) (ta_cons (te_ixT (d := letD T.ls) (te_var 2 (T := tyD K (tbD T))) te_int rfl) (ta_one (te_ixT (d := rulesD T.rs) (te_var 2 (T := tyD K (tbD T))) te_int rfl) rfl)) rfl (tk_cons (te_ixT (d := .str T.m) (te_var 2 (T := tyD K (tbD T))) te_int rfl) tk_nil) rfl rfl) (mirF_le fun D e => by rw [e]; exact Cm)) ?_ sc73.nd)
        refine ts_one (ts_ret (te_le (te_trip (A := tyP K (tyD K (.str "gave")) (tyTab K CC (mirT T))) (ta_cons (te_pair (ta_cons te_str (ta_one (te_var 8) rfl))) (ta_cons (te_lam (k := 2) (T := tyD K (tbD (mirT T))) rfl Hd TF rfl (hr.mono (by decide)) (LamX.lamS_by (sc := scopeAt 73) (by decide +kernel)) gave_D fun A1 outer1 s1 H1 E1 f1 c1 hr1 => te_fn (i := MiIx.mk T O ho) c46 hr1 (ta_one (te_var 2) rfl)) (ta_one (te_var 4) rfl)))) (tyEx_in (P := NxOk T) (T := nxTy K CC) (some (mirT T)) ⟨O2, rfl, by show (T.rs.map mirR).length ≤ 20; rw [List.length_map]; omega⟩)))
    exact ts_one (ts_ret (te_fn (i := NoIx.mk T O h7 h4) c70 hr (ta_cons (te_var 0) (ta_cons (te_var 1) (ta_one (te_var 2) rfl)))))
end
end K14
/-! MO: the law. -/
namespace K14
open PySem PySem.Spec PyProof.Rows L2
section
variable {X : Cx} {tg e a b c : Expr} {ρ : Rho} {T : Ty} {pos p : Pos} {ι : Type} {P : ι → Prop} {n : ι → Nat} {item : Nat → Ty}
/-- for .. in a walk of which the length is drawn -/
theorem ts_forX {body : List Stmt} {D : TEnds} {vs : List Nat} (J : Nat → Rho → Prop) (nxt : Nat → Rho → Rho) (hp : PassesOwn (model X.prog X.w) X.A X.env X.xe) (hc : X.calm = true) (hi : PI X tg e (tIx ρ P n fun _ => item)) (h0 : J 0 ρ) (hd : ∀ i ρ', J i ρ' → D.nx ρ')
    (hg : ∀ i ρ', J i ρ' → PG X tg (gT vs ρ' (item i) (nxt i ρ')))
    (hb : ∀ i ρ', J i ρ' → PSs X body (tS (nxt i ρ') { D with nx := J (i + 1), ct := J (i + 1), bk := D.nx }))
    (hs : ∀ x, foldedSetIterable e X.env x = pure x := by intro _; rfl) : PS X (.For tg e body [] pos) (tS ρ D) := by
  have g1 : PG X tg (fun v σ H Q => ∃ q : Nat × Rho, J q.1 q.2 ∧ gT vs q.2 (item q.1) (nxt q.1 q.2) v σ H Q) := ⟨fun pins s σ H v u Q I r ⟨q, h1, h2⟩ => (hg q.1 q.2 h1).run pins s σ H v u Q I r h2⟩
  have b1 : PSs X body (fun D0 σ H => ∃ q : Nat × Rho, J q.1 q.2 ∧ tS (nxt q.1 q.2) { D with nx := J (q.1 + 1), ct := J (q.1 + 1), bk := D.nx } D0 σ H) := pss_some fun q h => hb q.1 q.2 h
  refine ps_weak (ps_for hp hc hi g1 b1 hs) fun D0 σ H q => ⟨q.1, fun z hz It H1 G e1 w g => ?_⟩
  refine ⟨fun i m σ' H' => m = n z - i ∧ i ≤ n z ∧ G H' ∧ Gr H1 H' ∧ ∃ ρ', J i ρ' ∧ EnvT H' σ' ρ', ⟨n z, by simp, Nat.zero_le _, g, Gr.refl _, ρ, h0, q.1.mono e1⟩, ?_⟩
  rintro i m σ' H' ⟨rfl, hi', gH, eH, ρ', hJ, hE⟩
  by_cases hlt : i < n z
  · refine .inr ⟨w.goes i H' hlt gH, fun σ2 H2 => G H2 ∧ Gr H1 H2 ∧ ∃ ρ2, J (i + 1) ρ2 ∧ EnvT H2 σ2 ρ2, fun σ2 H2 p => ⟨n z - (i + 1), by omega, rfl, hlt, p⟩, fun x H2 y => ?_⟩
    obtain ⟨e20, hx⟩ := w.yields [] i H' x H2 hlt (fun _ h => by cases h) (by rw [hide_nil]; exact gH) y
    rw [hide_nil] at hx
    have e2 : Gr H' H2 := .same e20
    refine ⟨(i, ρ'), hJ, hE.mono e2, hx, fun σ3 H3 e3 hE3 _ => ⟨(i, ρ'), hJ, hE3, ?_⟩⟩
    have e13 : Gr H1 H3 := (eH.trans e2).trans e3
    refine ⟨fun ρ4 σ4 H4 a b c => ⟨w.st _ _ ((e2.trans e3).trans c) gH, e13.trans c, ρ4, a, b⟩, fun v H4 c a => q.2.rt v H4 ((e1.trans e13).trans c) a, fun ρ4 σ4 H4 a b c => q.2.nx ρ4 σ4 H4 a b ((e1.trans e13).trans c), fun ρ4 σ4 H4 a b c => ⟨w.st _ _ ((e2.trans e3).trans c) gH, e13.trans c, ρ4, a, b⟩⟩
  · have e : i = n z := by omega
    subst e
    exact .inl ⟨w.stops H' gH, q.2.nx ρ' σ' H' (hd _ ρ' hJ) hE (e1.trans eH)⟩
theorem ts_asgEx {vs : List Nat} {Ti : ι → Ty} {ρ1 : ι → Rho} {D : TEnds} (he : PE X e (tT ρ (tyEx P Ti))) (hg : ∀ z, P z → PG X tg (gT vs ρ (Ti z) (ρ1 z))) (h : ∀ z, P z → D.nx (ρ1 z)) (hs : swapsWithSole [tg] e pos.line X.env = pure false := by rfl) (hw : swappedStores [tg] e X.env = pure none := by rfl)
    (h1 : (assignEach [tg] X.env).map (·.2) = [assign tg X.env] := by rfl) : PS X (.Assign [tg] e pos) (tS ρ D) := by
  have g1 : PG X tg (fun v σ H Q => ∃ z, P z ∧ gT vs ρ (Ti z) (ρ1 z) v σ H Q) := ⟨fun pins s σ H v u Q I r ⟨z, hz, h2⟩ => (hg z hz).run pins s σ H v u Q I r h2⟩
  exact ps_weak (ps_asg he g1 hs hw h1) fun D0 σ H q => ⟨q.1, fun v H1 e1 ⟨z, hz, hv⟩ => ⟨z, hz, q.1.mono e1, hv, fun σ2 H2 e2 hE _ => q.2.nx _ _ H2 (h z hz) hE (e1.trans e2)⟩⟩
/-- letters[:4] -/
theorem te_let4 {j} {p1 p2 : Pos} (ha : PE X a (tT ρ (tyLets X.K))) : PE X (.Subscript a (.Slice none (some (.Constant (.int 4) j p1)) none p2) pos) (tT ρ (tyEx (fun cs => LetOk cs ∧ cs.length ≤ 4) fun cs => tyD X.K (letD cs))) :=
  te_sl (ol := none) (oh := some 4) (sl_tupB false) ha to_none (to_some te_int) fun x H Q ⟨cs, L, hx⟩ k => by
    obtain ⟨p, xs, rfl, h1, h2⟩ := Dp.tup_ hx
    have e4 : cutL ((cs.map sgn).map PyData.str) none (some 4) = ((cs.take 4).map sgn).map PyData.str := by
      rw [show (some (4 : Int)) = some ((4 : Nat) : Int) from rfl, cutL_to, List.map_take, List.map_take]
    have ok : LetOk (cs.take 4) ∧ (cs.take 4).length ≤ 4 := by
      refine ⟨⟨fun z => ?_, L.asc.sublist (List.take_sublist 4 cs), fun c hc => L.low c (List.mem_of_mem_take hc), ?_⟩, ?_⟩
      · have h0 : 0 < cs.length := List.length_pos_iff.mpr L.ne
        have : (cs.take 4).length = 0 := by rw [z]; rfl
        rw [List.length_take] at this
        omega
      · rw [List.length_take]
        omega
      · rw [List.length_take]
        exact Nat.min_le_left _ _
    refine ⟨p, xs, rfl, h1.sq, fun hw => ?_, fun _ q u hu hq => k _ _ (Gr.new hq) ⟨cs.take 4, ok, ?_⟩⟩
    · have gen : ∀ ds : List PyData, HT.sIx ds.length 0 none = 0 ∧ HT.sIx ds.length ds.length (some 4) = ds.length → cutL ds none (some 4) = ds := fun ds hw => by
        unfold cutL
        rw [hw.1, hw.2]
        simp
      have e : cutL ((cs.map sgn).map PyData.str) none (some 4) = (cs.map sgn).map PyData.str := by
        rw [DpAll.length h2] at hw
        exact gen _ hw
      exact k _ H (Gr.refl H) ⟨cs.take 4, ok, by
        have e5 : letD (cs.take 4) = letD cs := congrArg PyData.tuple (e4.symm.trans e)
        show Dp X.K H (.ref p) (letD (cs.take 4))
        rw [e5]
        exact hx⟩
    · refine Dp.tupP (isRs_strs _) upd_same ?_
      rw [← e4]
      exact Gr.dpAll (Gr.new hq) _ _ (DpAll.cut h2 none (some 4))
theorem isRs_tb (x y : PyData) (m : Str) : isRs [x, y, .str m] = false := by
  unfold isRs
  simp [isPr]
/-- (letters, drawn rules, manner) -/
theorem te_tbX {x1} {cs : List Nat} {m : Str} (ha : PE X a (tT ρ (tyD X.K (letD cs)))) (hb : PE X b (tT ρ (tyRules X.K cs))) (hc : PE X c (tT ρ (tyD X.K (.str m)))) (h1 : starEach [a, b, c] X.env = (false, eval a X.env) :: starEach [b, c] X.env := by rfl) (h2 : starEach [b, c] X.env = (false, eval b X.env) :: starEach [c] X.env := by rfl) (h3 : starEach [c] X.env = [(false, eval c X.env)] := by rfl) :
    PE X (.Tuple [a, b, c] x1 pos) (tT ρ (tyEx (RsOk cs) fun rs => tyD X.K (tbD ⟨cs, rs, m⟩))) :=
  pe_weak (pe_tup (ta_cons ha (ta_cons hb (ta_one hc h3) h2) h1)) fun σ H Q q => ⟨q.1, fun vs H1 e1 hv => by
    match vs, hv with
    | [u, v, w], hv =>
      obtain ⟨g1, ⟨rs, hrs, g2⟩, g3, _⟩ := hv
      exact ⟨by show 3 ≤ sizeLine; rw [sizeLine_eq]; omega, fun p hp => q.2 _ _ (e1.trans (.new hp)) ⟨rs, hrs, Dp.tupP (isRs_tb _ _ _) upd_same (.cons (Gr.dp (.new hp) _ _ g1) (.cons (Gr.dp (.new hp) _ _ g2) (.cons (Gr.dp (.new hp) _ _ g3) .nil)))⟩⟩⟩
end
section
variable {P : Program} {w : World} {K : PySem.W.Frag} {mg : Str → Option Value} {base : Heap} {f Rw tb C c : Addr} {fd : FuncData} {CC : Addr → Prop}
def nx8 (K : PySem.W.Frag) (CC : Addr → Prop) : Option Tb → Ty
  | none => tyD K refD
  | some U => tyP K (tyD K (.str "gave")) (tyTab K CC U)
def nx9 (K : PySem.W.Frag) : Option Tb → Ty
  | none => tyD K refD
  | some U => tyD K (gaveD (tbD U))
abbrev lwN : List Str := ["_law_script", "_law_feed_here", "_law_signs", "_law_choice", "_law_triple", "_law_table", "_law_words", "_law_lap", "_law_told", "_law_made", "_law_due"]
theorem sc74 : FnScope lwN ["_law_script"] (scopeAt 74) := ⟨rfl, rfl, rfl, by decide +kernel, rfl, by decide +kernel, by decide +kernel⟩
theorem ok_law (F : DefAt K "law" 74 f fd) (B : Free mg) (Mw : MakeWd P w K mg base CC tb) (c56 : CFeed P w K mg base) (c57 : CDraw P w K mg base) (c58 : CPick P w K mg base) (c59 : CLaw59 P w K mg base) (c61 : CLRules P w K mg base) (c66 : CTexts P w K mg base) (c62 : ∀ n, CSame P w K mg base n) (c68 : CCuts P w K mg base CC) (c69 : CForm P w K mg base CC) (c73 : CStep P w K mg base CC 16 "_law_next_object") :
    FnOk P w K mg base CX0 17 f fd ["_law_script"] (spT (fun i : ScIx => [tyScr K i.ns]) (fun _ => tyD K (.bool true))) := by
  refine fn_T F sc74 (fun _ => rfl) fun i cdv A outer s H E hr => ?_
  obtain ⟨ns, big⟩ := i
  obtain ⟨ft, fdt, Mt, Ft, bt⟩ := Mw.tab
  refine ts_cons (ts_set 1 (T := tyFeed) (te_fn (i := ScIx.mk ns big) c56 (hr.mono (by decide)) (ta_one (te_var 0) rfl)) ?_ sc74.nd)
  refine ts_cons (ts_set 2 (te_let4 (te_fn (i := ()) c59 (hr.mono (by decide)) (ta_one (te_var 1) rfl))) ?_ sc74.nd)
  refine ts_open 2 rfl fun cs hcs => ?_
  obtain ⟨L, h4⟩ := hcs
  refine ts_cons (ts_set 3 (T := tyEx (fun z => z ∈ manners) fun z => tyD K (.str z)) (te_le (te_fn (i := PkIx.mk (.list (manners.map .str)) (by decide) (by decide)) c58 (hr.mono (by decide)) (ta_cons (te_var 1) (ta_one (te_le (te_lst (ds := manners.map .str) (ta_cons te_str (ta_cons te_str (ta_cons te_str (ta_cons te_str (ta_one te_str rfl)))))) tyTL_le) rfl))) tyIn_strs) ?_ sc74.nd)
  refine ts_open 3 rfl fun m hm => ?_
  refine ts_cons (ts_set 4 (te_tbX (te_var 2) (te_fn (i := (Subtype.mk cs L : { cs : List Nat // LetOk cs })) c61 (hr.mono (by decide)) (ta_cons (te_var 1) (ta_cons (te_var 2) (ta_cons (te_le (te_fn (i := PkIx.mk (.list [.int 4, .int 6, .int 0, .int 2]) (by decide) (by decide)) c58 (hr.mono (by decide)) (ta_cons (te_var 1) (ta_one (te_le (te_lst (ds := [.int 4, .int 6, .int 0, .int 2]) (ta_cons te_int (ta_cons te_int (ta_cons te_int (ta_one te_int rfl))))) tyTL_le) rfl))) ?_) (ta_one te_int rfl))))) (te_var 3)) ?_ sc74.nd)
  · intro H v ⟨d, hd, hv⟩
    have hd : d ∈ ([.int 4, .int 6, .int 0, .int 2] : List PyData) := hd
    rcases List.mem_cons.mp hd with e | hd
    · subst e; exact ⟨4, by decide, hv⟩
    rcases List.mem_cons.mp hd with e | hd
    · subst e; exact ⟨6, by decide, hv⟩
    rcases List.mem_cons.mp hd with e | hd
    · subst e; exact ⟨0, by decide, hv⟩
    · obtain rfl := List.mem_singleton.mp hd
      exact ⟨2, by decide, hv⟩
  refine ts_open 4 rfl fun rs hrs => ?_
  have O0 : TbOk ⟨cs, rs, m⟩ := ⟨L, hrs.rule, hrs.nd, Nat.le_trans hrs.len (by decide), hm⟩
  have tx := texts_of (TeIx.mk cs L h4)
  refine ts_cons (ts_par (i := 5) (j := 6) (A := tyTab K CC ⟨cs, rs, m⟩) (B := tyTL K ((textsT cs).map .str)) (ta_cons (te_le (te_makeK (i := (Subtype.mk ⟨cs, rs, m⟩ O0 : TbI)) Mt Ft Mw.has (hr.mono (by decide)) Mw.hm bt (Ts := [tyD K (letD cs), tyD K (rulesD rs)]) (Ds := [tyD K (.str m)]) (ta_cons (te_ixT (d := letD cs) (te_var 4 (T := tyD K (tbD ⟨cs, rs, m⟩))) te_int rfl) (ta_one (te_ixT (d := rulesD rs) (te_var 4 (T := tyD K (tbD ⟨cs, rs, m⟩))) te_int rfl) rfl)) rfl (tk_cons (te_var 3) tk_nil) rfl rfl) (tyTab_le fun D e => by rw [e]; exact Mw.has)) (ta_one (te_fn (i := TeIx.mk cs L h4) c66 (hr.mono (by decide)) (ta_one (te_var 2) rfl)) rfl)) ?_ rfl sc74.nd)
  let rho := fun (T : Tb) (x y z u : Option Ty) => ([some (tyScr K ns), some tyFeed, some (tyD K (letD cs)), some (tyD K (.str m)), some (tyD K (tbD T)), some (tyTab K CC T), some (tyTL K ((textsT cs).map .str)), x, y, z, u] : Rho)
  have h6 := hrs.len
  refine ts_cons (ts_forX (P := fun z : Nat => z < 8) (n := fun z => ((1 : Int) + (z : Nat)).toNat) (item := fun i => tyD K (.int (i : Nat))) (vs := [7]) (fun _ ρ' => ∃ rs m x y z u, ρ' = rho ⟨cs, rs, m⟩ x y z u ∧ TbOk ⟨cs, rs, m⟩ ∧ rs.length ≤ 8) (fun j ρ' => ρ'.set 7 (some (tyD K (.int (j : Nat)))))
    PassesOwn.never rfl ?_ ⟨rs, m, none, none, none, none, rfl, O0, by omega⟩ (fun j ρ' ⟨rs, m, x, y, z, u, e, O, h8⟩ => ?_) (fun j ρ' _ => tg_name 7 sc74.nd (by decide)) fun j ρ' ⟨rs, m', x, y, z0, u, e, O, h8⟩ => ?_)
  · exact ti_rangeX (m := fun z : Nat => (1 : Int) + (z : Nat)) B.range (te_op op_add (te_int (i := 1)) (te_fn (i := DrIx.mk 8 (by decide) (by decide)) c57 (hr.mono (by decide)) (ta_cons (te_var 1) (ta_one te_int rfl))) fun x y H Q hx ⟨r, hr', hy⟩ k => ⟨1, r, Dp.int_ hx, Dp.int_ hy, k _ H (Gr.refl H) ⟨r, hr', .int _⟩⟩) fun z hz => ⟨by omega, by omega⟩
  · subst e
    refine ts_one (ts_ret (te_and (c := true) (d := true) (te_fn (i := (Subtype.mk ⟨cs, rs, m⟩ O : TbI)) c69 (hr.mono (by decide)) (ta_cons (te_var 5) (ta_one (te_var 4) rfl))) fun _ => te_one (te_fn (i := CrIx.mk ⟨cs, rs, m⟩ (textsT cs) O tx.2 tx.1) c68 (hr.mono (by decide)) (ta_cons (te_var 5) (ta_cons (te_var 4) (ta_one (te_var 6) rfl))))))
  · subst e
    have hlr : (rs.map pairD).length = rs.length := List.length_map ..
    have e2 : lenD (rulesD rs) = some rs.length := congrArg some hlr
    refine ts_cons (ts_if (k := false) (PW.pt (tw_or (c := false) (d := false) (tt_not (c := true) (tt_fn (i := (Subtype.mk ⟨cs, rs, m'⟩ O : TbI)) c69 (hr.mono (by decide)) rfl (ta_cons (te_var 5) (ta_one (te_var 4) rfl)))) fun _ => tw_or1 (tt_not (c := true) (tt_fn (i := CrIx.mk ⟨cs, rs, m'⟩ (textsT cs) O tx.2 tx.1) c68 (hr.mono (by decide)) rfl (ta_cons (te_var 5) (ta_cons (te_var 4) (ta_one (te_var 6) rfl))))))) (fun h => nomatch h) fun _ => ts_nil ?_)
    refine ts_cons (ts_if (k := decide ((7 : Int) < ((rs.length : Nat) : Int))) (tt_gt (te_len (d := rulesD rs) (n := rs.length) B.len (te_ixT (d := rulesD rs) (te_var 4 (T := tyD K (tbD ⟨cs, rs, m'⟩))) te_int rfl) e2 (by omega)) te_int) (fun _ => ts_one (ts_ret te_bl)) fun h => ts_nil ?_)
    have h7 : rs.length ≤ 7 := by
      have := of_decide_eq_false h
      omega
    refine ts_cons (ts_asgEx (vs := [8, 9, 10]) (te_fn (i := NoIx.mk ⟨cs, rs, m'⟩ O h7 h4) c73 hr (ta_cons (te_var 1) (ta_cons (te_var 5) (ta_one (te_var 4) rfl)))) (ρ1 := fun z => (((rho ⟨cs, rs, m'⟩ (some (tyD K (.int (j : Nat)))) y z0 u).set 8 (some (nx8 K CC z))).set 9 (some (nx9 K z))).set 10 (some (nx9 K z))) (fun z hz => ?_) fun z hz => ?_)
    · cases z with
      | none => exact tg_trip rfl (tgs_cons (tg_name 8 sc74.nd (by decide)) (tgs_cons (tg_name 9 sc74.nd (by decide)) (tgs_cons (tg_name 10 sc74.nd (by decide)) tgs_nil)))
      | some U => exact tg_trip rfl (tgs_cons (tg_name 8 sc74.nd (by decide)) (tgs_cons (tg_name 9 sc74.nd (by decide)) (tgs_cons (tg_name 10 sc74.nd (by decide)) tgs_nil)))
    · cases z with
      | none =>
        have tk : ∀ {X : Cx} {r : Rho} {e1 e2 : Expr} {es : List Expr}, True := True.intro
        refine ts_cons (ts_if (k := !decide (("NotUsable" : Str) = "gave")) (tt_neS (te_ixT (te_var 10 (T := tyD K refD)) te_int rfl) te_str) (fun _ => ?_) fun h => absurd h (by decide))
        · refine ts_one (ts_if (k := false) (PW.pt (tw_or (c := false) (d := false) (tt_not (c := true) (tt_fn (i := (Subtype.mk refD Smp.ref : { d : PyData // Smp 1 d })) (c62 1) (hr.mono (by decide)) rfl (ta_cons (te_var 8) (ta_one (te_var 10) rfl)))) fun _ => tw_or1 (tt_not (c := true) (tt_fn (i := (Subtype.mk refD Smp.ref : { d : PyData // Smp 1 d })) (c62 1) (hr.mono (by decide)) rfl (ta_cons (te_var 9) (ta_one (te_var 10) rfl)))))) (fun h => nomatch h) fun _ => ts_nil ?_)
          refine ts_cons (ts_if (k := false) (tt_not (c := true) (tt_fn (i := (Subtype.mk ⟨cs, rs, m'⟩ O : TbI)) c69 (hr.mono (by decide)) rfl (ta_cons (te_var 5) (ta_one (te_var 4) rfl)))) (fun h => nomatch h) fun _ => ts_nil ?_)
          refine ts_one (ts_if (k := decide (("NotUsable" : Str) = "gave") && false) (PW.pt (tw_and (tt_eqS (te_ixT (te_var 10 (T := tyD K refD)) te_int rfl) te_str) fun h => absurd h (by decide))) (fun h => absurd h (by decide)) fun _ => ts_nil ?_)
          exact ⟨rs, m', _, _, _, _, rfl, O, h8⟩
      | some U =>
        obtain ⟨ls, rs2, m2⟩ := U
        obtain ⟨OU, eU, lU⟩ := hz
        have eU : ls = cs := eU
        subst eU
        have lU : rs2.length ≤ 20 := lU
        have hlr2 : (rs2.map pairD).length = rs2.length := List.length_map ..
        have e3 : lenD (rulesD rs2) = some rs2.length := congrArg some hlr2
        have s4 : Smp 4 (gaveD (tbD ⟨ls, rs2, m2⟩)) := Smp.two Smp.str (Smp.tb OU)
        refine ts_cons (ts_if (k := !decide (("gave" : Str) = "gave")) (tt_neS (te_ixT (te_var 10 (T := tyD K (gaveD (tbD ⟨ls, rs2, m2⟩)))) te_int rfl) te_str) (fun h => absurd h (by decide)) fun _ => ?_)
        · refine ts_one (ts_if (k := false) (PW.pt (tw_or (c := false) (d := false) (tt_is (tt_neS (te_ixP (te_var 8 (T := tyP K (tyD K (.str "gave")) (tyTab K CC ⟨ls, rs2, m2⟩))) te_int (.inl ⟨rfl, rfl⟩)) te_str) (by decide)) fun _ => tw_or (c := false) (d := false) (tt_not (c := true) (tt_fn (i := (Subtype.mk ⟨ls, rs2, m2⟩ OU : TbI)) c69 (hr.mono (by decide)) rfl (ta_cons (te_ixP (te_var 8 (T := tyP K (tyD K (.str "gave")) (tyTab K CC ⟨ls, rs2, m2⟩))) te_int (.inr ⟨rfl, rfl⟩)) (ta_one (te_ixT (d := tbD ⟨ls, rs2, m2⟩) (te_var 10 (T := tyD K (gaveD (tbD ⟨ls, rs2, m2⟩)))) te_int rfl) rfl)))) fun _ => tw_or1 (tt_not (c := true) (tt_fn (i := (Subtype.mk (gaveD (tbD ⟨ls, rs2, m2⟩)) s4 : { d : PyData // Smp 4 d })) (c62 4) (hr.mono (by decide)) rfl (ta_cons (te_var 9) (ta_one (te_var 10) rfl)))))) (fun h => nomatch h) fun _ => ts_nil ?_)
          refine ts_cons (ts_if (k := false) (tt_not (c := true) (tt_fn (i := (Subtype.mk ⟨ls, rs, m'⟩ O : TbI)) c69 (hr.mono (by decide)) rfl (ta_cons (te_var 5) (ta_one (te_var 4) rfl)))) (fun h => nomatch h) fun _ => ts_nil ?_)
          refine ts_one (ts_if (k := decide (("gave" : Str) = "gave") && decide (((rs2.length : Nat) : Int) < 9)) (PW.pt (tw_and (tt_eqS (te_ixT (te_var 10 (T := tyD K (gaveD (tbD ⟨ls, rs2, m2⟩)))) te_int rfl) te_str) fun _ => tw_and1 (tt_lt (te_len (d := rulesD rs2) (n := rs2.length) B.len (te_ixT (d := rulesD rs2) (te_ixT (d := tbD ⟨ls, rs2, m2⟩) (te_var 10 (T := tyD K (gaveD (tbD ⟨ls, rs2, m2⟩)))) te_int rfl) te_int rfl) e3 (by omega)) te_int))) (fun h => ?_) fun _ => ts_nil ⟨rs, m', _, _, _, _, rfl, O, h8⟩)
          rw [Bool.and_eq_true] at h
          have h9 := of_decide_eq_true h.2
          exact ts_one (ts_par (i := 5) (j := 4) (A := tyTab K CC ⟨ls, rs2, m2⟩) (B := tyD K (tbD ⟨ls, rs2, m2⟩)) (ta_cons (te_ixP (te_var 8 (T := tyP K (tyD K (.str "gave")) (tyTab K CC ⟨ls, rs2, m2⟩))) te_int (.inr ⟨rfl, rfl⟩)) (ta_one (te_ixT (d := tbD ⟨ls, rs2, m2⟩) (te_var 10 (T := tyD K (gaveD (tbD ⟨ls, rs2, m2⟩)))) te_int rfl) rfl)) ⟨rs2, m2, _, _, _, _, rfl, OU, by omega⟩ rfl sc74.nd)
end
end K14
/-! HD1: Bools that say what the walks ask of the classes. -/
namespace K14
open PySem PySem.Spec PyProof.Rows L2
abbrev KF : Type := PySem.W.Frag
theorem ba {a b : Bool} (h : (a && b) = true) : a = true ∧ b = true := Bool.and_eq_true_iff.mp h
abbrev fIs (K : KF) (C : Addr) (m : Str) (v : Option Value) : Bool := He.eqO (PySem.W.findIn K (.ref C) m) (some v)
def clsB (K : KF) (C : Addr) : Bool := PySem.W.plainGet K C Str.empty && (PySem.W.hasDictIn K C && (PySem.W.plainOver K C && fIs K C "__setattr__" (some (.builtin "object.__setattr__"))))
theorem clsB_ok {K : KF} {C : Addr} (h : clsB K C = true) : Cls K C := ⟨(ba h).1, (ba (ba h).2).1, (ba (ba (ba h).2).2).1, He.eqO_ok (ba (ba (ba h).2).2).2⟩
def mkB (K : KF) (C f : Addr) : Bool := PySem.W.makesIn K C && (fIs K C "__init__" (some (.ref f)) && (PySem.W.isFn K (.ref f) && PySem.W.keepIn K (.ref C)))
theorem mkB_ok {K : KF} {C f : Addr} (h : mkB K C f = true) : Mk K C f := ⟨(ba h).1, He.eqO_ok (ba (ba h).2).1, (ba (ba (ba h).2).2).1, (ba (ba (ba h).2).2).2⟩
def mthB (K : KF) (C : Addr) (m : Str) (f : Addr) : Bool := fIs K C m (some (.ref f)) && (PySem.W.isFn K (.ref f) && PySem.W.keepIn K (.ref f))
theorem mthB_ok {K : KF} {C f : Addr} {m : Str} (h : mthB K C m f = true) : Meth K C m f := ⟨He.eqO_ok (ba h).1, (ba (ba h).2).1, (ba (ba h).2).2⟩
def recB (K : KF) (p : Addr) (n : String) (g : Addr) : Bool := match PySem.W.recIn K p n with
  | some (.ref g' :: _) => decide (g' = g)
  | _ => false
theorem recB_ok {K : KF} {p g : Addr} {n : String} (h : recB K p n g = true) : ∃ rest, PySem.W.recIn K p n = some (.ref g :: rest) := by
  unfold recB at h
  split at h
  · rename_i g' rest e
    have : g' = g := of_decide_eq_true h
    exact ⟨rest, this ▸ e⟩
  · cases h
def propB (K : KF) (C : Addr) (m : Str) (p g : Addr) : Bool := fIs K C m (some (.ref p)) && (He.eqO (PySem.W.specialIn K (.ref p) "__get__") (some (some (.builtin "property.__get__"))) && (decide (PySem.W.takesIn K (.ref p) = some true) && recB K p "property" g))
theorem propB_ok {K : KF} {C p g : Addr} {m : Str} (h : propB K C m p g = true) : PropOf K C m p g := ⟨He.eqO_ok (ba h).1, He.eqO_ok (ba (ba h).2).1, of_decide_eq_true (ba (ba (ba h).2).2).1, recB_ok (ba (ba (ba h).2).2).2⟩
def insB (K : KF) (C T : Addr) : Bool := fIs K C "__class__" (some (.builtin "object.__class__")) && (decide (PySem.W.mroIn K C (.type "object") = some true) && decide (PySem.W.kitOne K (.ref C) (.ref T) = some true))
def insG (K : KF) : Bool := He.eqO (PySem.W.specialIn K (.builtin "object.__class__") "__get__") (some (some (.builtin "getset_descriptor.__get__"))) && decide (PySem.W.takesIn K (.builtin "object.__class__") = some true)
theorem insT_of {K : KF} {CC : Addr → Prop} {T : Addr} (g : insG K = true) (c : ∀ C, CC C → clsB K C = true) (h : ∀ C, CC C → insB K C T = true) : InsT K CC T :=
  ⟨fun C hC => clsB_ok (c C hC), fun C hC => He.eqO_ok (ba (h C hC)).1, He.eqO_ok (ba g).1, of_decide_eq_true (ba g).2, fun C hC => of_decide_eq_true (ba (ba (h C hC)).2).1, fun C hC => of_decide_eq_true (ba (ba (h C hC)).2).2⟩
/-! exceptions -/
def oexO (K : KF) (C : Addr) : Bool := match K.lookup C with
  | some ⟨.type t, _, .cls ⟨_, _, .ref C' :: bm, _, _, true, _, _, _, _, false⟩, ⟨[_, _, _, _, some (.builtin n), _]⟩⟩ => decide (t = "type") && (decide (C' = C) && (decide (n = "ValueError.__new__") && PySem.HandSPX.refsVE bm))
  | _ => false
theorem oexO_ok {K : KF} {C : Addr} (h : oexO K C = true) : ∃ nm q N bs bm sn sub ab col dd k0 k1 k2 k3 k5, K.lookup C = some (excClassObj nm q C N bs bm true sn sub ab col dd k0 k1 k2 k3 k5 "ValueError.__new__") ∧ PySem.HandSPX.refsVE bm = true := by
  unfold oexO at h
  split at h
  · rename_i t dd nm bs C' bm N q sn sub ab col k0 k1 k2 k3 n k5 e
    obtain ⟨h1, h⟩ := ba h
    obtain ⟨h2, h⟩ := ba h
    obtain ⟨h3, h4⟩ := ba h
    have e1 := of_decide_eq_true h1
    have e2 := of_decide_eq_true h2
    have e3 := of_decide_eq_true h3
    subst e1 e2 e3
    exact ⟨nm, q, N, bs, bm, sn, sub, ab, col, dd, k0, k1, k2, k3, k5, e, h4⟩
  · cases h
def oexB (K : KF) (C : Addr) : Bool := oexO K C && (fIs K C "__setattr__" (some (.builtin "object.__setattr__")) && (decide (PySem.W.subIn K (.ref C) (.type "BaseException") = some true) && (decide (PySem.W.typeIn K (.ref C) = some (.type "type")) && PySem.W.keepIn K (.ref C))))
theorem oexB_ok {K : KF} {C : Addr} (h : oexB K C = true) : OexC K C := ⟨oexO_ok (ba h).1, He.eqO_ok (ba (ba h).2).1, of_decide_eq_true (ba (ba (ba h).2).2).1, of_decide_eq_true (ba (ba (ba (ba h).2).2).2).1, (ba (ba (ba (ba h).2).2).2).2⟩
def isSomeB (K : KF) (C : Addr) : Bool := (PySem.W.clsIn K C).isSome
def opqB (K : KF) : Bool := He.eqO (PySem.W.nsIn K PySem.cStatics "thirdparty.any") (some none)
def supEB (K : KF) (C : Addr) : Bool := isSomeB K C && (decide (PySem.W.mroIn K C (.ref C) = some true) && (opqB K && (He.eqO (PySem.W.ks_superIn K C C "__init__") (some (some (.builtin "ValueError.__init__"))) && decide (PySem.W.subIn K (.ref C) (.type "ValueError") = some true))))
theorem supEB_ok {K : KF} {C : Addr} (h : supEB K C = true) : SupE K C := by
  obtain ⟨h1, h⟩ := ba h
  obtain ⟨h2, h⟩ := ba h
  obtain ⟨h3, h⟩ := ba h
  obtain ⟨h4, h5⟩ := ba h
  exact ⟨Option.isSome_iff_exists.mp h1, of_decide_eq_true h2, He.eqO_ok h3, He.eqO_ok h4, of_decide_eq_true h5⟩
def nuB (K : KF) (C : Addr) : Bool := oexB K C && (supEB K C && (fIs K C "word" none && (fIs K C "at" none && (xfB K C && decide (PySem.W.exmOne K (.ref C) (.ref C) = some true)))))
theorem nuB_ok {K : KF} {C : Addr} (h : nuB K C = true) : NuC K C ∧ NuX K C := by
  obtain ⟨h1, h⟩ := ba h
  obtain ⟨h2, h⟩ := ba h
  obtain ⟨h3, h⟩ := ba h
  obtain ⟨h4, h⟩ := ba h
  obtain ⟨h5, h6⟩ := ba h
  exact ⟨⟨oexB_ok h1, supEB_ok h2, He.eqO_ok h3, He.eqO_ok h4⟩, ⟨xfB_ok h5, He.eqO_ok h3, He.eqO_ok h4, of_decide_eq_true h6⟩⟩
/-- super().__init__ of the class Dc (its instances' class is Dc) is the def at g -/
def supFB (K : KF) (Dc g : Addr) : Bool := isSomeB K Dc && (decide (PySem.W.mroIn K Dc (.ref Dc) = some true) && (opqB K && (He.eqO (PySem.W.ks_superIn K Dc Dc "__init__") (some (some (.ref g))) && (decide (PySem.W.typeIn K (.ref g) = some (.type "function")) && PySem.W.fnIn K g))))
theorem supFB_ok {K : KF} {Dc g : Addr} (h : supFB K Dc g = true) : SupF K (fun C => C = Dc) Dc g := by
  obtain ⟨h1, h⟩ := ba h
  obtain ⟨h2, h⟩ := ba h
  obtain ⟨h3, h⟩ := ba h
  obtain ⟨h4, h⟩ := ba h
  obtain ⟨h5, h6⟩ := ba h
  exact ⟨Option.isSome_iff_exists.mp h1, fun C e => by cases e; exact of_decide_eq_true h2, He.eqO_ok h3, fun C e => by cases e; exact He.eqO_ok h4, of_decide_eq_true h5, h6⟩
def fileB (P : Program) (K : KF) (c : Addr) : Bool := match K.lookup c with
  | some ⟨_, _, .fields vs, _⟩ => (match (vs[2]? : Option Value) with
    | some (.str file _) => ((P.main.file : Str) == file)
    | _ => false)
  | _ => false
theorem fileB_ok {P : Program} {K : KF} {c : Addr} (h : fileB P K c = true) (ht : (P.main.scope.names.lookup ("super" : Str)).isSome = false) : FileF P K c := by
  refine ⟨?_, ht⟩
  unfold fileB at h
  split at h
  · rename_i o d vs sl e
    split at h
    · rename_i file t e2
      exact ⟨_, _, vs, _, file, t, e, e2, h⟩
    · cases h
  · cases h
def cellB (K : KF) (cc Dc : Addr) : Bool := match K.lookup cc with
  | some ⟨_, _, .cell (some (.ref D)), _⟩ => decide (D = Dc)
  | _ => false
theorem cellB_ok {K : KF} {cc Dc : Addr} (h : cellB K cc Dc = true) : ∃ cl cld csl, K.lookup cc = some ⟨cl, cld, .cell (some (.ref Dc)), csl⟩ := by
  unfold cellB at h
  split at h
  · rename_i cl cld D csl e
    have : D = Dc := of_decide_eq_true h
    exact ⟨cl, cld, csl, this ▸ e⟩
  · cases h
/-! special methods, operators -/
def spcB (K : KF) (m : Str) (f : Addr) (Cs : List Addr) : Bool := (Cs.all fun C => fIs K C m (some (.ref f))) && (PySem.W.isFn K (.ref f) && PySem.W.fnIn K f)
theorem spcB_ok {K : KF} {m : Str} {f : Addr} {Cs : List Addr} {CC : Addr → Prop} (h : spcB K m f Cs = true) (hc : ∀ C, CC C → C ∈ Cs) : SpcF K CC m f := ⟨fun C hC => He.eqO_ok (List.all_eq_true.mp (ba h).1 C (hc C hC)), (ba (ba h).2).1, (ba (ba h).2).2⟩
def opB (K : KF) (nm : String) (f : Addr) (Cs : List Addr) : Bool := (Cs.all fun C => PySem.W.selfFirst K C && (fIs K C (PySem.dunder nm) (some (.ref f)) && fIs K C (dunderR nm) none)) && PySem.W.isFn K (.ref f)
theorem opB_ok {K : KF} {nm : String} {f : Addr} {Cs : List Addr} {CC : Addr → Prop} (h : opB K nm f Cs = true) (hc : ∀ C, CC C → C ∈ Cs) : OpF K CC nm f := ⟨fun C hC => (ba (List.all_eq_true.mp (ba h).1 C (hc C hC))).1, fun C hC => He.eqO_ok (ba (ba (List.all_eq_true.mp (ba h).1 C (hc C hC))).2).1, fun C hC => He.eqO_ok (ba (ba (List.all_eq_true.mp (ba h).1 C (hc C hC))).2).2, (ba h).2⟩
def opTB (K : KF) (nm : String) (Cs : List Addr) : Bool := (PySem.W.findIn K (.type "tuple") (PySem.dunder nm)).isSome && ((PySem.W.findIn K (.type "tuple") (dunderR nm)).isSome && Cs.all fun C => decide (PySem.W.subIn K (.type "tuple") (.ref C) = some false))
theorem opTB_ok {K : KF} {nm : String} {Cs : List Addr} {CC : Addr → Prop} (h : opTB K nm Cs = true) (hc : ∀ C, CC C → C ∈ Cs) : OpTup K CC nm := ⟨Option.isSome_iff_exists.mp (ba h).1, Option.isSome_iff_exists.mp (ba (ba h).2).1, fun C hC => of_decide_eq_true (List.all_eq_true.mp (ba (ba h).2).2 C (hc C hC))⟩
/-! constants -/
def tupA (K : KF) (a : Addr) (vs : List V) : Bool := match K.lookup a with
  | some ⟨.type c, _, .seq its _, _⟩ => decide (c = "tuple") && (decide (its.size ≤ sizeLine) && He.relAll vs its.toList)
  | _ => false
theorem tupA_ok {K : KF} {a : Addr} {vs : List V} (h : tupA K a vs = true) (H : Hp) : SqT K H a vs := by
  unfold tupA at h
  split at h
  · rename_i c d its n sl e
    obtain ⟨h1, h⟩ := ba h
    obtain ⟨h2, h3⟩ := ba h
    exact .inr ⟨_, its, n, e, congrArg Value.type (of_decide_eq_true h1), rfl, of_decide_eq_true h2, He.relAll_ok h3⟩
  · cases h
theorem dpl_strs {K : KF} {H : Hp} : ∀ xs : List Str, L2.DpAll K H (xs.map V.str) (xs.map PyData.str)
  | [] => .nil
  | x :: xs => .cons (.str x) (dpl_strs xs)
def kvsB (K : KF) (a : Addr) (kvs : List (Str × Str)) : Bool := kvs.all fun q => match PySem.W.nsIn K a q.1 with
  | some (some (.str z _)) => decide (z = q.2)
  | _ => false
theorem kvsB_ok {K : KF} {a : Addr} {kvs : List (Str × Str)} (h : kvsB K a kvs = true) {q : Str × Str} (hq : q ∈ kvs) : ∃ t, PySem.W.nsIn K a q.1 = some (some (.str q.2 t)) := by
  have h2 := List.all_eq_true.mp h q hq
  split at h2
  · rename_i z t e
    have : z = q.2 := of_decide_eq_true h2
    exact ⟨t, this ▸ e⟩
  · cases h2
def strG (K : KF) (x z : Str) : Bool := match PySem.W.nsIn K mainGlobals x with
  | some (some (.str y _)) => decide (y = z)
  | _ => false
theorem strG_ok {K : KF} {x z : Str} (h : strG K x z = true) : ∃ t, PySem.W.nsIn K mainGlobals x = some (some (.str z t)) := by
  unfold strG at h
  split at h
  · rename_i y t e
    have : y = z := of_decide_eq_true h
    exact ⟨t, this ▸ e⟩
  · cases h
/-! ### defs -/
/-- a def as the head leaves it, at its address, its code object's address -/
structure DefE where
  a : Addr
  c : Addr
  name : Str
  qual : Str
  params : Arguments
  body : List Stmt
  scope : Scope
  dfl : List V := []
  kwd : List (Str × V) := []
  clo : List (Str × Addr) := []
def fnA (K : KF) (a : Addr) : He.FnW := match K.lookup a with
  | some ⟨_, _, .func fd, _⟩ => some (fd.name, fd.qualname, fd.params, fd.body, fd.scope, fd.globals, fd.closure, fd.builtins)
  | _ => none
def DefE.val (d : DefE) : He.FnW := some (d.name, d.qual, d.params, .stmts d.body, d.scope, mainGlobals, d.clo, builtinsNs)
def DefE.ok (K : KF) (d : DefE) : Bool := PySem.W.keepIn K (.ref d.a) && (match K.lookup d.a with
  | some ⟨_, _, .func fd, _⟩ => decide (fd.code = .ref d.c) && (PySem.W.codeIn K fd.code d.qual && (He.dflB K fd.defaults d.dfl && He.kwdB K fd.kwdefaults d.kwd))
  | _ => false)
theorem DefE.raw {K : KF} {d : DefE} (e : fnA K d.a = d.val) (c : d.ok K = true) : PySem.W.keepIn K (.ref d.a) = true ∧ ∃ (oc : Value) (od : Option Addr) (osl : Array (Option Value)) (dV kV doc pm : Value) (an : Option Addr) (ct : Value) (fd : FuncData),
    fd = PySem.W.fnX d.name d.qual d.params d.body d.scope d.clo dV kV doc pm an (.ref d.c) ct ∧ K.lookup d.a = some ⟨oc, od, .func fd, osl⟩ ∧ PySem.W.codeIn K (.ref d.c) d.qual = true ∧ DflV K dV d.dfl ∧ KwdV K kV d.kwd := by
  obtain ⟨kp, c2⟩ := ba c
  refine ⟨kp, ?_⟩
  unfold fnA at e
  cases q : K.lookup d.a with
  | none =>
    rw [q] at c2
    cases c2
  | some o =>
    obtain ⟨oc, od, dt, osl⟩ := o
    rw [q] at c2 e
    cases dt with
    | func fd =>
      obtain ⟨n1, n2, n3, n4, n5, n6, n7, n8, n9, n10, n11, n12, n13, n14, n15⟩ := fd
      have e2 : (some (n1, n2, n3, n4, n5, n6, n7, n15) : He.FnW) = some (d.name, d.qual, d.params, .stmts d.body, d.scope, mainGlobals, d.clo, builtinsNs) := e
      simp only [Option.some.injEq, Prod.mk.injEq] at e2
      obtain ⟨h1, h2, h3, h4, h5, h6, h7, h8⟩ := e2
      subst h1 h2 h3 h4 h5 h6 h7 h8
      have c3 : (decide (n13 = .ref d.c) && (PySem.W.codeIn K n13 d.qual && (He.dflB K n8 d.dfl && He.kwdB K n9 d.kwd))) = true := c2
      obtain ⟨k0, k1⟩ := ba c3
      obtain ⟨k1, k2⟩ := ba k1
      obtain ⟨k3, k4⟩ := ba k2
      have k0 := of_decide_eq_true k0
      subst k0
      exact ⟨oc, od, osl, n8, n9, n10, n11, n12, n14, _, rfl, rfl, k1, He.dflB_ok k3, He.kwdB_ok k4⟩
    | _ => cases c2
theorem DefE.fun_ {K : KF} {d : DefE} (e : fnA K d.a = d.val) (c : d.ok K = true) (h : d.clo = []) : ∃ fd, FunD K d.name d.qual d.params d.body d.scope d.dfl d.kwd d.a fd := by
  obtain ⟨kp, oc, od, osl, dV, kV, doc, pm, an, ct, fd, e1, e2, e3, e4, e5⟩ := DefE.raw e c
  rw [h] at e1
  exact ⟨fd, ⟨oc, od, dV, kV, doc, pm, an, _, ct, osl, e1, e2, e3, e4, e5⟩, kp⟩
theorem DefE.funS {K : KF} {d : DefE} {cc Dc : Addr} (e : fnA K d.a = d.val) (c : d.ok K = true) (h : d.clo = [(("__class__" : Str), cc)]) (hc : cellB K cc Dc = true) : ∃ fd, FunS K d.name d.qual d.params d.body d.scope d.dfl d.kwd d.a fd cc Dc d.c := by
  obtain ⟨kp, oc, od, osl, dV, kV, doc, pm, an, ct, fd, e1, e2, e3, e4, e5⟩ := DefE.raw e c
  rw [h] at e1
  exact ⟨fd, ⟨oc, od, dV, kV, doc, pm, an, ct, osl, e1, e2, e3, e4, e5⟩, cellB_ok hc, kp⟩
abbrev dG (x : Str) (i : Nat) (a c : Addr) : DefE := ⟨a, c, x, x, argsAt i, bodyAt i, scopeAt i, [], [], []⟩
abbrev dK (x : Str) (i : Nat) (a c : Addr) (kwd : List (Str × V)) : DefE := ⟨a, c, x, x, argsAt i, bodyAt i, scopeAt i, [], kwd, []⟩
abbrev dM (nm q : Str) (i j : Nat) (a c : Addr) (dfl : List V) (kwd : List (Str × V)) (clo : List (Str × Addr)) : DefE := ⟨a, c, nm, q, defArgs (memb i j), defBody (memb i j), defScope (memb i j), dfl, kwd, clo⟩
theorem defC_of {K : KF} {x : Str} {i : Nat} {a c : Addr} (e : fnA K a = (dG x i a c).val) (k : (dG x i a c).ok K = true) : ∃ fd, DefC K x i a fd c := by
  obtain ⟨kp, oc, od, osl, dV, kV, doc, pm, an, ct, fd, e1, e2, e3, e4, e5⟩ := DefE.raw (d := dG x i a c) e k
  exact ⟨fd, ⟨oc, od, dV, kV, doc, pm, an, ct, osl, e1, e2, e3, e4, e5⟩, kp⟩
end K14
/-! HD2: what is looked at behind the top. -/
namespace K14
open PySem PySem.Spec PyProof.Rows L2
abbrev theP : Program := PySem.Challenge.rw_paircuts_k14_whole_objects_are_functions.prog
def cmetB (K : KF) (C : Addr) (m : Str) (p g : Addr) : Bool := (match PySem.W.findCls K (.ref C) (.type "type") m with
  | some (.get (.builtin n) (.ref p') .none (.ref C')) => decide (n = "classmethod.__get__") && (decide (p' = p) && decide (C' = C))
  | _ => false) && (recB K p "classmethod" g && PySem.W.fnIn K g)
theorem cmetB_ok {K : KF} {C p g : Addr} {m : Str} (h : cmetB K C m p g = true) : ClX.CMet K C (.type "type") m p g := by
  obtain ⟨h1, h⟩ := ba h
  obtain ⟨h2, h3⟩ := ba h
  refine ⟨?_, recB_ok h2, h3⟩
  split at h1
  · rename_i n p' C' e
    obtain ⟨k1, h1⟩ := ba h1
    obtain ⟨k2, k3⟩ := ba h1
    have e1 := of_decide_eq_true k1
    have e2 := of_decide_eq_true k2
    have e3 := of_decide_eq_true k3
    subst e1 e2 e3
    exact e
  · cases h1
def mirKv : List (Str × Str) := [("ranked", "rightranked"), ("rightranked", "ranked"), ("leftmost", "rightmost"), ("rightmost", "leftmost")]
/-- the objects that are looked at -/
def seenA : List Addr := [2, 3, 6, 9, 13, 20, 21, 27, 30, 31, 40, 43, 44, 52, 55, 56, 62, 65, 73, 74, 76, 77, 83, 86,
  94, 95, 97, 98, 101, 107, 108, 114, 115, 119, 120, 126, 127, 133, 134, 138, 139, 145, 146, 152, 153, 157, 158, 162,
  163, 167, 168, 174, 175, 181, 182, 188, 189, 193, 194, 198, 199, 200, 206, 207, 213, 214, 220, 221, 227, 228, 234, 235,
  241, 242, 248, 249, 255, 256, 260, 261, 267, 268, 274, 275, 281, 288, 289, 295, 296, 298, 299, 305, 306, 308, 309, 315,
  316, 319, 325, 326, 327, 333, 334, 340, 341, 347, 348, 354, 355, 359, 360, 366, 367, 373, 374, 378, 379, 383, 384, 390,
  391, 397, 398, 404, 405, 411, 412, 418, 419, 423, 424, 430, 431, 437, 438, 444, 445, 447, 448, 453, 454, 460, 461, 465,
  466, 472, 473, 477, 478, 484, 485, 489, 490, 496, 497, 503, 506, 507, 513, 514, 520, 521, 523, 524, 530, 531, 533, 534,
  540, 541, 544, 550, 551, 552, 558, 559, 560, 566, 567, 568, 574, 575, 581, 582, 588, 589, 595, 596, 602, 603, 609, 610,
  616, 617, 623, 624, 630, 631, 635, 636, 642, 643, 645, 646, 654, 657, 660, 667, 668, 670, 671, 677, 680, 683, 690, 691,
  697, 698, 699, 701, 702, 708, 709, 715, 716, 722, 723, 727, 728, 732, 733, 739, 740, 744, 745, 751, 752, 758, 759, 763,
  764, 768, 769, 773, 774, 780, 781, 785, 786, 792, 793, 799, 800, 804, 805, 809, 810, 816, 817]
def defsL : List DefE := [dG "is_integer" 10 108 107,
  dG "is_number" 11 115 114,
  dG "is_text" 12 120 119,
  dG "is_letter" 13 127 126,
  dG "is_piece" 14 134 133,
  dG "is_row" 15 139 138,
  dG "is_rule" 16 146 145,
  dG "is_manner" 17 153 152,
  dG "are_letters" 18 158 157,
  dG "is_text_of" 19 163 162,
  dG "is_rule_of" 20 168 167,
  dG "rules_fault" 21 175 174,
  dG "table_fault" 22 182 181,
  dG "is_table" 23 189 188,
  dG "places_of" 25 194 193,
  dG "is_preferred" 26 199 198,
  dG "joined_at" 28 214 213,
  dG "stages_of" 29 221 220,
  dG "run_of" 30 228 227,
  dG "cut_of" 31 235 234,
  dG "require_usable" 33 242 241,
  dG "lets_table" 34 249 248,
  dG "boundaries_of" 36 256 255,
  dG "without_rule" 44 466 465,
  dG "with_manner" 45 473 472,
  dG "mirrored" 46 478 477,
  dG "rule_text" 48 485 484,
  dG "table_text" 49 490 489,
  dG "table_object" 51 497 496,
  dG "_law_feed" 56 709 708,
  dG "_law_draw" 57 716 715,
  dG "_law_pick" 58 723 722,
  dG "_law_letters" 59 728 727,
  dG "_law_piece" 60 733 732,
  dG "_law_rules" 61 740 739,
  dG "_law_same" 62 745 744,
  dG "_law_heard" 63 752 751,
  dG "_law_next" 64 759 758,
  dG "_law_cut" 65 764 763,
  dG "_law_texts" 66 769 768,
  dG "_law_is_over" 67 774 773,
  dG "_law_cuts_right" 68 781 780,
  dG "_law_is_form" 69 786 785,
  dG "_law_more" 70 793 792,
  dG "_law_less" 71 800 799,
  dG "_law_united" 72 805 804,
  dG "_law_next_object" 73 810 809,
  dG "law" 74 817 816,
  dK "next_join" 27 207 206 [("stage", .int 0)],
  dK "with_rule" 43 461 460 [("rank", .non)],
  dM "__init__" "Row.__init__" 40 0 289 288 [] [] [],
  dM "text" "Row.text" 40 4 326 325 [] [] [],
  dM "pieces" "Row.pieces" 40 5 334 333 [] [] [],
  dM "of" "Table.of" 52 1 521 520 [] [] [],
  dM "form" "Table.form" 52 7 575 574 [] [] [],
  dM "__call__" "Table.__call__" 52 8 582 581 [] [] [],
  dM "__getitem__" "Table.__getitem__" 52 9 589 588 [] [] [],
  dM "__len__" "Table.__len__" 52 12 610 609 [] [] [],
  dM "__eq__" "Table.__eq__" 52 13 617 616 [] [] [],
  dM "__add__" "Table.__add__" 52 14 624 623 [] [] [],
  dM "__sub__" "Table.__sub__" 52 15 631 630 [] [] [],
  dM "__or__" "Table.__or__" 52 16 636 635 [] [] [],
  dM "__str__" "Table.__str__" 52 17 643 642 [] [] [],
  dM "__init__" "Table.__init__" 52 0 514 513 [.ref 505] [("manner", .str "ranked")] [],
  dM "__init__" "NotUsable.__init__" 6 0 95 94 [] [] [("__class__", 83)],
  dM "__init__" "Once.__init__" 53 0 668 667 [.ref 659] [] [("__class__", 654)],
  dM "__init__" "Mirrored.__init__" 54 0 691 690 [.ref 682] [] [("__class__", 677)]]
def gloL : List (Str × Addr) := ([("is_integer", 108), ("is_number", 115), ("is_text", 120), ("is_letter", 127), ("is_piece", 134),
  ("is_row", 139), ("is_rule", 146), ("is_manner", 153), ("are_letters", 158), ("is_text_of", 163),
  ("is_rule_of", 168), ("rules_fault", 175), ("table_fault", 182), ("is_table", 189), ("places_of", 194),
  ("is_preferred", 199), ("joined_at", 214), ("stages_of", 221), ("run_of", 228), ("cut_of", 235)] : List (Str × Addr)) ++ ([("require_usable", 242), ("lets_table", 249), ("boundaries_of", 256), ("without_rule", 466), ("with_manner", 473),
  ("mirrored", 478), ("rule_text", 485), ("table_text", 490), ("table_object", 497), ("_law_feed", 709),
  ("_law_draw", 716), ("_law_pick", 723), ("_law_letters", 728), ("_law_piece", 733), ("_law_rules", 740),
  ("_law_same", 745), ("_law_heard", 752), ("_law_next", 759), ("_law_cut", 764), ("_law_texts", 769)] : List (Str × Addr)) ++ ([("_law_is_over", 774), ("_law_cuts_right", 781), ("_law_is_form", 786), ("_law_more", 793), ("_law_less", 800),
  ("_law_united", 805), ("_law_next_object", 810), ("law", 817), ("next_join", 207), ("with_rule", 461),
  ("Row", 448), ("Table", 646), ("Once", 671), ("Mirrored", 702), ("NotUsable", 98),
  ("MANNERS", 101), ("MIRRORS", 453)] : List (Str × Addr))
def freeL : List Str := ["isinstance", "int", "bool", "str", "tuple", "list", "len", "all", "zip", "range", "enumerate", "sorted", "set", "super"]
def factsL : List (KF → Bool) := [fun K => clsB K 448,
  fun K => clsB K 646,
  fun K => clsB K 671,
  fun K => clsB K 702,
  fun K => fIs K 448 "kept_pieces" none,
  fun K => fIs K 448 "kept_text" none,
  fun K => fIs K 448 "kept_places" none,
  fun K => fIs K 646 "own_form" none,
  fun K => fIs K 671 "own_form" none,
  fun K => fIs K 702 "own_form" none,
  fun K => fIs K 646 "own_rules" none,
  fun K => fIs K 671 "own_rules" none,
  fun K => fIs K 702 "own_rules" none,
  fun K => fIs K 702 "own_told" none,
  fun K => insG K,
  fun K => insB K 448 448,
  fun K => insB K 646 646,
  fun K => insB K 671 646,
  fun K => insB K 702 646,
  fun K => mkB K 448 289,
  fun K => mkB K 646 514,
  fun K => mkB K 671 668,
  fun K => mkB K 702 691,
  fun K => mthB K 448 "pieces" 334,
  fun K => propB K 448 "text" 327 326,
  fun K => mthB K 646 "form" 575,
  fun K => mthB K 671 "form" 575,
  fun K => mthB K 702 "form" 575,
  fun K => spcB K "__call__" 582 [646, 671, 702],
  fun K => spcB K "__getitem__" 589 [646, 671, 702],
  fun K => spcB K "__len__" 610 [646, 671, 702],
  fun K => spcB K "__eq__" 617 [646, 671, 702],
  fun K => spcB K "__str__" 643 [646, 671, 702],
  fun K => opB K "add" 624 [646, 671, 702],
  fun K => opB K "sub" 631 [646, 671, 702],
  fun K => opB K "or" 636 [646, 671, 702],
  fun K => opTB K "add" [646, 671, 702],
  fun K => opTB K "sub" [646, 671, 702],
  fun K => PySem.W.notFirst K 646 (.ref 646),
  fun K => PySem.W.notFirst K 671 (.ref 646),
  fun K => PySem.W.notFirst K 702 (.ref 646),
  fun K => decide (PySem.W.subIn K (.ref 646) (.ref 671) = some false),
  fun K => decide (PySem.W.subIn K (.ref 646) (.ref 702) = some false),
  fun K => nuB K 98,
  fun K => fIs K 98 "__init__" (some (.ref 95)),
  fun K => decide (PySem.W.typeIn K (.ref 95) = some (.type "function")),
  fun K => supFB K 671 514,
  fun K => supFB K 702 514,
  fun K => fileB theP K 94,
  fun K => cellB K 83 98,
  fun K => fileB theP K 667,
  fun K => cellB K 654 671,
  fun K => fileB theP K 690,
  fun K => cellB K 677 702,
  fun K => PySem.W.readsIn K 646 (.type "type"),
  fun K => He.eqO (PySem.W.specialIn K (.ref 646) "__getattribute__") (some (some (.builtin "type.__getattribute__"))),
  fun K => cmetB K 646 "of" 523 521,
  fun K => tupA K 101 (manners.map V.str),
  fun K => strG K "LETTERS" abc,
  fun K => kvsB K 453 mirKv,
  fun K => PySem.W.codeHdIn K 792 788,
  fun K => PySem.W.codeHdIn K 799 795,
  fun K => PySem.W.codeHdIn K 804 802,
  fun K => PySem.W.codeHdIn K 809 807]
def tabsL : List (Addr × Addr) := [(792, 788), (799, 795), (804, 802), (809, 807)]
def exL (K : KF) : Bool := (defsL.all fun d => d.ok K) && ((gloL.all fun p => He.eqO (PySem.W.nsIn K mainGlobals p.1) (some (some (.ref p.2)))) && ((freeL.all fun x => He.eqO (PySem.W.nsIn K mainGlobals x) (some none)) && factsL.all fun f => f K))
def looseL : List PySem.Str := (["_wall", "PairError", "PaperError", "TableError", "InvalidPaper", "NotUsable", "LETTERS", "MANNERS",
  "is_integer", "is_number", "is_text", "is_letter", "is_piece", "is_row", "is_rule", "is_manner",
  "are_letters", "is_text_of", "is_rule_of", "rules_fault"] : List PySem.Str) ++ (["table_fault", "is_table", "places_of", "is_preferred", "next_join", "joined_at", "stages_of", "run_of",
  "cut_of", "require_usable", "lets_table", "boundaries_of", "pieces_between", "added_pieces", "require_same_text", "Row",
  "MIRRORS", "with_rule", "without_rule", "with_manner"] : List PySem.Str) ++ (["mirrored", "rule_text", "table_text", "table_object", "Table", "Once", "Mirrored", "_law_feed",
  "_law_draw", "_law_pick", "_law_letters", "_law_piece", "_law_rules", "_law_same", "_law_heard", "_law_next",
  "_law_cut", "_law_texts", "_law_is_over", "_law_cuts_right"] : List PySem.Str) ++ (["_law_is_form", "_law_more", "_law_less", "_law_united", "_law_next_object"] : List PySem.Str)
abbrev AlL : Type := List He.FnW × Option (List (Option (Str × Int))) × Bool
def obsL (g : Addr → Option Obj) (K : KF) : AlL := (defsL.map fun d => fnA K d.a, He.dicW K 453, exL K && tabsL.all fun p => match g p.2 with
  | some o => He.emptyTab o
  | none => false)
def valL (w : World) : AlL := (defsL.map DefE.val, some (He.keysIn w.params (mirKv.map (·.1))), true)
structure SaysL (w : World) (h : Heap) (K : KF) : Prop where
  fns : (defsL.map fun d => fnA K d.a) = defsL.map DefE.val
  dic : He.dicW K 453 = some (He.keysIn w.params (mirKv.map (·.1)))
  ex : exL K = true
  emp : ∀ p ∈ tabsL, h.get? p.2 = some { cls := .none, data := .fields #[] } ∧ K.lookup p.2 = none
theorem says_of {w : World} {h : Heap} (e : obsL h.get? (He.frT h.get? seenA) = valL w) : SaysL w h (He.frT h.get? seenA) := by
  have e1 := congrArg (fun z : AlL => z.1) e
  have e2 := congrArg (fun z : AlL => z.2.1) e
  have e3 : (exL (He.frT h.get? seenA) && tabsL.all fun p => match h.get? p.2 with
    | some o => He.emptyTab o
    | none => false) = true := congrArg (fun z : AlL => z.2.2) e
  obtain ⟨h1, h2⟩ := ba e3
  refine ⟨e1, e2, h1, fun p hp => ?_⟩
  have h3 := List.all_eq_true.mp h2 p hp
  split at h3
  · rename_i o q
    exact ⟨by rw [q, He.emptyTab_eq h3], He.frT_none q h3⟩
  · cases h3
def hookL : PySem.W.Hook where
  α := AlL
  obs := fun s => obsL s.heap.get? (He.frT s.heap.get? seenA)
  val := valL
  says := fun w h => ∃ K : KF, K.In h ∧ SaysL w h K
  of := fun _ _ e => ⟨_, He.frT_in, says_of e⟩
  keeps := fun _ _ _ ⟨K, hK, c⟩ k => ⟨K, PySem.W.Frag.In.keeps hK k, ⟨c.fns, c.dic, c.ex, fun p hp => ⟨k _ _ (c.emp p hp).1, (c.emp p hp).2⟩⟩⟩
def obT (s : PySem.W.SharedT) : AlL := obsL (HandSHeadRun.getT s) (He.frT (HandSHeadRun.getT s) seenA)
theorem obT_eq (s : PySem.W.SharedT) : obT s = hookL.obs s.abs := by
  have e : HandSHeadRun.getT s = s.abs.heap.get? := funext (HandSHeadRun.getT_eq s)
  unfold obT
  rw [e]
  rfl
/-! what it says -/
section
variable {w : World} {h : Heap} {K : KF} {mg : Str → Option Value}
theorem SaysL.def_ (S : SaysL w h K) (i : Nat) {d : DefE} (hd : defsL[i]? = some d) : fnA K d.a = d.val ∧ d.ok K = true := by
  refine ⟨?_, List.all_eq_true.mp (ba S.ex).1 d (List.mem_of_getElem? hd)⟩
  have e : (defsL.map fun d => fnA K d.a)[i]? = (defsL.map DefE.val)[i]? := by rw [S.fns]
  rw [List.getElem?_map, List.getElem?_map, hd] at e
  exact Option.some.inj e
theorem SaysL.glo (S : SaysL w h K) (X : K.In h) (G : h.Ns mainGlobals mg) (i : Nat) {x : Str} {a : Addr} (hd : gloL[i]? = some (x, a)) : mg x = some (.ref a) :=
  PySem.W.mg_of X G (He.eqO_ok (List.all_eq_true.mp (ba (ba S.ex).2).1 (x, a) (List.mem_of_getElem? hd)))
theorem SaysL.free (S : SaysL w h K) (X : K.In h) (G : h.Ns mainGlobals mg) (i : Nat) {x : Str} (hd : freeL[i]? = some x) : mg x = none :=
  PySem.W.mg_none_of X G (He.eqO_ok (List.all_eq_true.mp (ba (ba (ba S.ex).2).2).1 x (List.mem_of_getElem? hd)))
theorem SaysL.fact (S : SaysL w h K) (i : Nat) {f : KF → Bool} (hd : factsL[i]? = some f) : f K = true := List.all_eq_true.mp (ba (ba (ba S.ex).2).2).2 f (List.mem_of_getElem? hd)
end
end K14
/-! HD3: the top, by the kernel. -/
noncomputable section
set_option maxHeartbeats 0
namespace K14
open PySem PySem.W PySem.Calls PyProof.Rows
abbrev theR : OpenRow := OpenLaw.row PySem.Challenge.rw_paircuts_k14_whole_objects_are_functions
abbrev theQ : Program := view theR.prog [74]
abbrev endS (w : World) (os : OsState) : Option SharedT := HandSHeadRun.endF (HandSHeadRun.stepQ (HandSHeadRun.denQ HandSHeadRun.tabQ) theR.prog w) 6400 theR.prog w os
abbrev rowS : String := "special-get-raises"
abbrev runA (w : World) : Prop := ∀ os, (endS w os).map (fun s => HandSHeadRun.looksF theR.prog (boot_heap w.params) s.abs) = some true
abbrev runB (w : World) : Prop := ∀ os, (endS w os).map (fun s => HandSHeadRun.seenQ theQ looseL (importedModules theR.prog.main.body) (fun s => xlAt theQ [] s && recOk theR.toRowW.records s) s.abs) = some (openGood theQ looseL)
abbrev runC (w : World) : Prop := ∀ os, (endS w os).map obT = some (valL w)
theorem runA0 (w : World) : runA (w.withFollow rowS false) := by
  intro os
  kernel_rfl
theorem runA1 (w : World) : runA (w.withFollow rowS true) := by
  intro os
  kernel_rfl
theorem runB0 (w : World) : runB (w.withFollow rowS false) := by
  intro os
  kernel_rfl
theorem runB1 (w : World) : runB (w.withFollow rowS true) := by
  intro os
  kernel_rfl
theorem runC0 (w : World) : runC (w.withFollow rowS false) := by
  intro os
  kernel_rfl
theorem runC1 (w : World) : runC (w.withFollow rowS true) := by
  intro os
  kernel_rfl
theorem run_all (w : World) : HandSHeadRun.RunEq theR theQ hookL obT 6400 looseL w := fun os => by
  have a : runA w := byRow2 rowS (P := runA) runA0 runA1 w
  have b : runB w := byRow2 rowS (P := runB) runB0 runB1 w
  have c : runC w := byRow2 rowS (P := runC) runC0 runC1 w
  have a := a os
  have b := b os
  have c := c os
  cases e : endS w os with
  | none =>
    rw [e] at a
    cases a
  | some s =>
    rw [e] at a b c
    show (endS w os).map _ = _
    rw [e]
    have a2 := Option.some.inj a
    have b2 := Option.some.inj b
    have c2 := Option.some.inj c
    show some (_, _, obT s) = some (true, openGood theQ looseL, valL w)
    rw [c2]
    exact congrArg some (Prod.ext a2 (Prod.ext b2 rfl))
end K14
end
/-! HD4: all defs keep their promises at what the head leaves. -/
namespace K14
open PySem PySem.Spec PyProof.Rows L2
def tcc : Addr → Prop := fun C => C = 646 ∨ C = 671 ∨ C = 702
theorem tcc_in : ∀ C, tcc C → C ∈ ([646, 671, 702] : List Addr) := fun C h => by
  rcases h with e | e | e <;> subst e <;> decide
theorem tcc_all {p : Addr → Prop} (h1 : p 646) (h2 : p 671) (h3 : p 702) : ∀ C, tcc C → p C := fun C h => by
  rcases h with e | e | e <;> subst e
  · exact h1
  · exact h2
  · exact h3
section
variable {w : World} {h : Heap} {K : KF} {mg : Str → Option Value}
theorem free_of (S : SaysL w h K) (X : K.In h) (G : h.Ns mainGlobals mg) : Free mg :=
  ⟨S.free X G 0 rfl, S.free X G 1 rfl, S.free X G 2 rfl, S.free X G 3 rfl, S.free X G 4 rfl, S.free X G 5 rfl, S.free X G 6 rfl, S.free X G 7 rfl, S.free X G 8 rfl, S.free X G 9 rfl, S.free X G 10 rfl, S.free X G 11 rfl, S.free X G 12 rfl, S.free X G 13 rfl⟩
theorem cons_of (S : SaysL w h K) (X : K.In h) (G : h.Ns mainGlobals mg) : Cons K mg := by
  obtain ⟨t, e⟩ := strG_ok (S.fact 58 (f := fun K => strG K "LETTERS" abc) rfl)
  refine ⟨⟨t, PySem.W.mg_of X G e⟩, 101, S.glo X G 55 rfl, fun H => ?_⟩
  exact .tup (tupA_ok (S.fact 57 (f := fun K => tupA K 101 (manners.map V.str)) rfl) H) (dpl_strs manners)
theorem mir_of (S : SaysL w h K) (X : K.In h) (G : h.Ns mainGlobals mg) : Mir K w mg := by
  obtain ⟨es, n, D⟩ := He.dicW_ok S.dic
  refine ⟨453, es, n, S.glo X G 56 rfl, D, fun m hm ho => ?_⟩
  have kv := S.fact 59 (f := fun K => kvsB K 453 mirKv) rfl
  rcases man_cases hm ho with e | e | e | e <;> subst e
  · exact kvsB_ok kv (q := ("ranked", "rightranked")) (by decide)
  · exact kvsB_ok kv (q := ("rightranked", "ranked")) (by decide)
  · exact kvsB_ok kv (q := ("leftmost", "rightmost")) (by decide)
  · exact kvsB_ok kv (q := ("rightmost", "leftmost")) (by decide)
theorem rowC_of (S : SaysL w h K) : RowC K 448 := ⟨clsB_ok (S.fact 0 (f := fun K => clsB K 448) rfl), He.eqO_ok (S.fact 4 (f := fun K => fIs K 448 "kept_pieces" none) rfl), He.eqO_ok (S.fact 5 (f := fun K => fIs K 448 "kept_text" none) rfl), He.eqO_ok (S.fact 6 (f := fun K => fIs K 448 "kept_places" none) rfl)⟩
theorem tabC_of (S : SaysL w h K) : TabC K tcc :=
  ⟨tcc_all (clsB_ok (S.fact 1 (f := fun K => clsB K 646) rfl)) (clsB_ok (S.fact 2 (f := fun K => clsB K 671) rfl)) (clsB_ok (S.fact 3 (f := fun K => clsB K 702) rfl)),
   tcc_all (He.eqO_ok (S.fact 7 (f := fun K => fIs K 646 "own_form" none) rfl)) (He.eqO_ok (S.fact 8 (f := fun K => fIs K 671 "own_form" none) rfl)) (He.eqO_ok (S.fact 9 (f := fun K => fIs K 702 "own_form" none) rfl)),
   tcc_all (He.eqO_ok (S.fact 10 (f := fun K => fIs K 646 "own_rules" none) rfl)) (He.eqO_ok (S.fact 11 (f := fun K => fIs K 671 "own_rules" none) rfl)) (He.eqO_ok (S.fact 12 (f := fun K => fIs K 702 "own_rules" none) rfl))⟩
theorem TabC.sub {K : KF} {CC C2 : Addr → Prop} (R : TabC K CC) (h : ∀ C, C2 C → CC C) : TabC K C2 := ⟨fun C hC => R.cls C (h C hC), fun C hC => R.n1 C (h C hC), fun C hC => R.n2 C (h C hC)⟩
theorem insR_of (S : SaysL w h K) : InsT K (fun C => C = 448) 448 := insT_of (S.fact 14 (f := insG) rfl) (fun C e => e ▸ S.fact 0 (f := fun K => clsB K 448) rfl) (fun C e => e ▸ S.fact 15 (f := fun K => insB K 448 448) rfl)
theorem insTab_of (S : SaysL w h K) : InsT K tcc 646 := insT_of (S.fact 14 (f := insG) rfl) (tcc_all (S.fact 1 (f := fun K => clsB K 646) rfl) (S.fact 2 (f := fun K => clsB K 671) rfl) (S.fact 3 (f := fun K => clsB K 702) rfl)) (tcc_all (S.fact 16 (f := fun K => insB K 646 646) rfl) (S.fact 17 (f := fun K => insB K 671 646) rfl) (S.fact 18 (f := fun K => insB K 702 646) rfl))
theorem InsT.sub {K : KF} {CC C2 : Addr → Prop} {T : Addr} (R : InsT K CC T) (h : ∀ C, C2 C → CC C) : InsT K C2 T := ⟨fun C hC => R.cl C (h C hC), fun C hC => R.ha C (h C hC), R.hn, R.htk, fun C hC => R.hm C (h C hC), fun C hC => R.is C (h C hC)⟩
theorem at_fun (S : SaysL w h K) (i : Nat) {d : DefE} (hd : defsL[i]? = some d) (hc : d.clo = []) : ∃ fd, FunD K d.name d.qual d.params d.body d.scope d.dfl d.kwd d.a fd := DefE.fun_ (S.def_ i hd).1 (S.def_ i hd).2 hc
theorem at_G (S : SaysL w h K) (i : Nat) {x : Str} {j : Nat} {a c : Addr} (hd : defsL[i]? = some (dG x j a c)) : ∃ fd, DefAt K x j a fd := at_fun S i hd rfl
theorem at_M (S : SaysL w h K) (i : Nat) {nm q : Str} {j k : Nat} {a c : Addr} (hd : defsL[i]? = some (dM nm q j k a c [] [] [])) : ∃ fd, MethAt K nm q j k [] a fd := at_fun S i hd rfl
end
theorem top_super : (theP.main.scope.names.lookup ("super" : Str)).isSome = false := by decide +kernel
theorem tabF_of {base : Heap} {mg : Str → Option Value} (c T : Addr) (q : Str) (h : LamX.TabB base mg c T) (m : (T, q) ∈ tabsT) (u : ∀ p ∈ tabsT, p.1 = T → p.2 = q) : TabF base mg c q := ⟨T, h, m, u⟩
theorem law_ok {w : World} {h : Heap} {K : KF} {mg : Str → Option Value} {base : Heap} (S : SaysL w h K) (X : K.In h) (G : h.Ns mainGlobals mg) (TB : ∀ p ∈ tabsL, LamX.TabB base mg p.1 p.2) {fd : FuncData} (Flaw : DefAt K "law" 74 817 fd) :
    FnOk theP w K mg base CX0 17 817 fd ["_law_script"] (spT (fun i : ScIx => [tyScr K i.ns]) (fun _ => tyD K (.bool true))) := by
  have B := free_of S X G
  have Co := cons_of S X G
  have Mi := mir_of S X G
  have Rc := rowC_of S
  have Tc := tabC_of S
  have it := insTab_of S
  have i646 : tcc 646 := .inl rfl
  have i671 : tcc 671 := .inr (.inl rfl)
  have i702 : tcc 702 := .inr (.inr rfl)
  obtain ⟨_, F10⟩ := at_G S 0 rfl
  obtain ⟨_, F11⟩ := at_G S 1 rfl
  obtain ⟨_, F12⟩ := at_G S 2 rfl
  obtain ⟨_, F13⟩ := at_G S 3 rfl
  obtain ⟨_, F14⟩ := at_G S 4 rfl
  obtain ⟨_, F15⟩ := at_G S 5 rfl
  obtain ⟨_, F16⟩ := at_G S 6 rfl
  obtain ⟨_, F17⟩ := at_G S 7 rfl
  obtain ⟨_, F18⟩ := at_G S 8 rfl
  obtain ⟨_, F19⟩ := at_G S 9 rfl
  obtain ⟨_, F20⟩ := at_G S 10 rfl
  obtain ⟨_, F21⟩ := at_G S 11 rfl
  obtain ⟨_, F22⟩ := at_G S 12 rfl
  obtain ⟨_, F23⟩ := at_G S 13 rfl
  obtain ⟨_, F25⟩ := at_G S 14 rfl
  obtain ⟨_, F26⟩ := at_G S 15 rfl
  obtain ⟨_, F28⟩ := at_G S 16 rfl
  obtain ⟨_, F29⟩ := at_G S 17 rfl
  obtain ⟨_, F30⟩ := at_G S 18 rfl
  obtain ⟨_, F31⟩ := at_G S 19 rfl
  obtain ⟨_, F33⟩ := at_G S 20 rfl
  obtain ⟨_, F34⟩ := at_G S 21 rfl
  obtain ⟨_, F36⟩ := at_G S 22 rfl
  obtain ⟨_, F44⟩ := at_G S 23 rfl
  obtain ⟨_, F45⟩ := at_G S 24 rfl
  obtain ⟨_, F46⟩ := at_G S 25 rfl
  obtain ⟨_, F48⟩ := at_G S 26 rfl
  obtain ⟨_, F49⟩ := at_G S 27 rfl
  obtain ⟨_, F51⟩ := at_G S 28 rfl
  obtain ⟨_, F56⟩ := at_G S 29 rfl
  obtain ⟨_, F57⟩ := at_G S 30 rfl
  obtain ⟨_, F58⟩ := at_G S 31 rfl
  obtain ⟨_, F59⟩ := at_G S 32 rfl
  obtain ⟨_, F60⟩ := at_G S 33 rfl
  obtain ⟨_, F61⟩ := at_G S 34 rfl
  obtain ⟨_, F62⟩ := at_G S 35 rfl
  obtain ⟨fd63, F63⟩ := at_G S 36 rfl
  obtain ⟨_, F64⟩ := at_G S 37 rfl
  obtain ⟨_, F65⟩ := at_G S 38 rfl
  obtain ⟨_, F66⟩ := at_G S 39 rfl
  obtain ⟨_, F67⟩ := at_G S 40 rfl
  obtain ⟨_, F68⟩ := at_G S 41 rfl
  obtain ⟨_, F69⟩ := at_G S 42 rfl
  obtain ⟨_, F70⟩ := defC_of (x := "_law_more") (i := 70) (a := 793) (c := 792) (S.def_ 43 rfl).1 (S.def_ 43 rfl).2
  obtain ⟨_, F71⟩ := defC_of (x := "_law_less") (i := 71) (a := 800) (c := 799) (S.def_ 44 rfl).1 (S.def_ 44 rfl).2
  obtain ⟨_, F72⟩ := defC_of (x := "_law_united") (i := 72) (a := 805) (c := 804) (S.def_ 45 rfl).1 (S.def_ 45 rfl).2
  obtain ⟨_, F73⟩ := defC_of (x := "_law_next_object") (i := 73) (a := 810) (c := 809) (S.def_ 46 rfl).1 (S.def_ 46 rfl).2
  obtain ⟨_, F27⟩ := at_fun S 48 (d := dK "next_join" 27 207 206 [("stage", .int 0)]) rfl rfl
  obtain ⟨_, F43⟩ := at_fun S 49 (d := dK "with_rule" 43 461 460 [("rank", .non)]) rfl rfl
  obtain ⟨_, FRi⟩ := at_M S 50 rfl
  obtain ⟨_, FRt⟩ := at_M S 51 rfl
  obtain ⟨_, FRp⟩ := at_M S 52 rfl
  obtain ⟨_, FTo⟩ := at_M S 53 rfl
  obtain ⟨_, FTf⟩ := at_M S 54 rfl
  obtain ⟨_, FTc⟩ := at_M S 55 rfl
  obtain ⟨_, FTg⟩ := at_M S 56 rfl
  obtain ⟨_, FTl⟩ := at_M S 57 rfl
  obtain ⟨_, FTe⟩ := at_M S 58 rfl
  obtain ⟨_, FTa⟩ := at_M S 59 rfl
  obtain ⟨_, FTs⟩ := at_M S 60 rfl
  obtain ⟨_, FTu⟩ := at_M S 61 rfl
  obtain ⟨_, FTt⟩ := at_M S 62 rfl
  obtain ⟨_, FTi⟩ := at_fun S 63 (d := dM "__init__" "Table.__init__" 52 0 514 513 [.ref 505] [("manner", .str "ranked")] []) rfl rfl
  obtain ⟨_, FNu⟩ := DefE.funS (d := dM "__init__" "NotUsable.__init__" 6 0 95 94 [] [] [("__class__", 83)]) (S.def_ 64 rfl).1 (S.def_ 64 rfl).2 rfl (S.fact 49 (f := fun K => cellB K 83 98) rfl)
  obtain ⟨_, FOn⟩ := DefE.funS (d := dM "__init__" "Once.__init__" 53 0 668 667 [.ref 659] [] [("__class__", 654)]) (S.def_ 65 rfl).1 (S.def_ 65 rfl).2 rfl (S.fact 51 (f := fun K => cellB K 654 671) rfl)
  obtain ⟨_, FMr⟩ := DefE.funS (d := dM "__init__" "Mirrored.__init__" 54 0 691 690 [.ref 682] [] [("__class__", 677)]) (S.def_ 66 rfl).1 (S.def_ 66 rfl).2 rfl (S.fact 53 (f := fun K => cellB K 677 702) rfl)
  have g := fun (i : Nat) {x : Str} {a : Addr} (hd : gloL[i]? = some (x, a)) => S.glo X G i hd
  have c10 := ok_is_integer (P := theP) (w := w) (base := base) F10 (g 0 rfl) B.isinstance B.int B.bool
  have c11 := ok_is_number (P := theP) (w := w) (base := base) F11 (g 1 rfl) c10
  have c12 := ok_is_text (P := theP) (w := w) (base := base) F12 (g 2 rfl) B Co
  have c13 := ok_is_letter F13 (g 3 rfl) B c12
  have c14 := ok_is_piece F14 (g 4 rfl) c12
  have c15 := ok_is_row F15 (g 5 rfl) B c14
  have c16 := ok_is_rule F16 (g 6 rfl) B c15
  have c17 := ok_is_manner (P := theP) (w := w) (base := base) F17 (g 7 rfl) B Co
  have c18 := ok_are_letters F18 (g 8 rfl) B c13
  have c19 := ok_is_text_of F19 (g 9 rfl) B c12
  have c20 := ok_is_rule_of F20 (g 10 rfl) B c16 c19
  have c21 := ok_rules_fault F21 (g 11 rfl) B c20
  have c22 := ok_table_fault F22 (g 12 rfl) B c18 c21 c17
  have c23 := ok_is_table F23 (g 13 rfl) c22
  have c25 := ok_places_of (P := theP) (w := w) (base := base) F25 (g 14 rfl) B
  have c26 := ok_is_preferred (P := theP) (w := w) (base := base) F26 (g 15 rfl)
  have c27 := ok_next_join F27 (g 48 rfl) B c11 c25 c26
  have c28 := ok_joined_at (P := theP) (w := w) (base := base) F28 (g 16 rfl)
  have c29 := ok_stages_of F29 (g 17 rfl) B c27 c28
  have c30 := ok_run_of F30 (g 18 rfl) c29
  have c31 := ok_cut_of F31 (g 19 rfl) B c30
  have c33 := ok_require_usable (P := theP) (w := w) (base := base) F33 (g 20 rfl)
  have c34 := ok_lets_table F34 (g 21 rfl) B c22
  have c36 := ok_boundaries_of (P := theP) (w := w) (base := base) F36 (g 22 rfl) B
  have c43 := ok_with_rule F43 (g 49 rfl) B c20 c33
  have c44 := ok_without_rule F44 (g 23 rfl) B c11 c33
  have c45 := ok_with_manner F45 (g 24 rfl) c17 c33
  have c46 := ok_mirrored F46 (g 25 rfl) B Mi c33
  have c48 := ok_rule_text (P := theP) (w := w) (base := base) F48 (g 26 rfl)
  have c49 := ok_table_text F49 (g 27 rfl) c48
  -- rows
  have Ri := ok_row_init FRi Rc B c33 c14 c36
  have Rt := ok_row_text (P := theP) (w := w) (mg := mg) (base := base) FRt Rc
  have Rp := ok_row_pieces (P := theP) (w := w) (mg := mg) (base := base) FRp Rc
  have Rb : Binds K _ ["self", "pieces"] [] := methBinds FRi fun _ _ _ _ _ _ us hl => match us, hl with | [_, _], _ => rfl
  have MkR : Mk K 448 289 := mkB_ok (S.fact 19 (f := fun K => mkB K 448 289) rfl)
  have MkT : Mk K 646 514 := mkB_ok (S.fact 20 (f := fun K => mkB K 646 514) rfl)
  have MkO : Mk K 671 668 := mkB_ok (S.fact 21 (f := fun K => mkB K 671 668) rfl)
  have MkM : Mk K 702 691 := mkB_ok (S.fact 22 (f := fun K => mkB K 702 691) rfl)
  have Rw : RowWd theP w K mg base 448 := ⟨g 50 rfl, insR_of S, Rc.cls, ⟨_, _, ⟨fun C e => e ▸ ⟨Rc.cls, mthB_ok (S.fact 23 (f := fun K => mthB K 448 "pieces" 334) rfl)⟩⟩, Rp⟩, ⟨327, _, _, propB_ok (S.fact 24 (f := fun K => propB K 448 "text" 327 326) rfl), Rt⟩⟩
  -- tables
  have Ti := ok_table_init (P := theP) (w := w) (mg := mg) (base := base) FTi Tc c34
  have c51 := ok_table_object F51 (g 28 rfl) MkT Ti.1 Ti.2 i646 (g 51 rfl)
  have one : ∀ C, (fun C => C = 646) C → tcc C := fun C e => by rw [show C = 646 from e]; exact i646
  have Te := ok_tab_eq (P := theP) (w := w) (mg := mg) (base := base) FTe Tc (Tc.sub one) B (g 51 rfl) (it.sub one)
  have sp := fun (m : Str) (f : Addr) (q : spcB K m f [646, 671, 702] = true) => spcB_ok (CC := tcc) q tcc_in
  have Tw : TabWd theP w K mg base tcc 646 448 := {
    hm := g 51 rfl
    ins := it
    cls := Tc.cls
    has := i646
    nf := fun C D hC e => by
      subst e
      exact tcc_all (p := fun C => PySem.W.notFirst K C (.ref 646) = true) (S.fact 38 (f := fun K => PySem.W.notFirst K 646 (.ref 646)) rfl) (S.fact 39 (f := fun K => PySem.W.notFirst K 671 (.ref 646)) rfl) (S.fact 40 (f := fun K => PySem.W.notFirst K 702 (.ref 646)) rfl) C hC
    form := ⟨575, _, ⟨tcc_all ⟨Tc.cls _ i646, mthB_ok (S.fact 25 (f := fun K => mthB K 646 "form" 575) rfl)⟩ ⟨Tc.cls _ i671, mthB_ok (S.fact 26 (f := fun K => mthB K 671 "form" 575) rfl)⟩ ⟨Tc.cls _ i702, mthB_ok (S.fact 27 (f := fun K => mthB K 702 "form" 575) rfl)⟩⟩, ok_tab_form FTf Tc⟩
    len := ⟨_, _, sp _ _ (S.fact 30 (f := fun K => spcB K "__len__" 610 [646, 671, 702]) rfl), ok_tab_len FTl Tc B⟩
    item := ⟨_, _, sp _ _ (S.fact 29 (f := fun K => spcB K "__getitem__" 589 [646, 671, 702]) rfl), ok_tab_item FTg Tc B c11 c33⟩
    call := ⟨_, _, sp _ _ (S.fact 28 (f := fun K => spcB K "__call__" 582 [646, 671, 702]) rfl), ok_tab_call FTc Tc c19 c31 c33 MkR Ri Rb (g 50 rfl)⟩
    str := ⟨_, _, sp _ _ (S.fact 32 (f := fun K => spcB K "__str__" 643 [646, 671, 702]) rfl), ok_tab_str FTt Tc c49⟩
    eq := ⟨_, _, sp _ _ (S.fact 31 (f := fun K => spcB K "__eq__" 617 [646, 671, 702]) rfl), Te⟩
    of := ⟨.type "type", 523, 521, _, ⟨S.fact 54 (f := fun K => PySem.W.readsIn K 646 (.type "type")) rfl, He.eqO_ok (S.fact 55 (f := fun K => He.eqO (PySem.W.specialIn K (.ref 646) "__getattribute__") (some (some (.builtin "type.__getattribute__")))) rfl)⟩, cmetB_ok (S.fact 56 (f := fun K => cmetB K 646 "of" 523 521) rfl), ok_table_of FTo MkT Ti.1 Ti.2 i646 c34⟩ }
  -- refused
  obtain ⟨Nc, Nx⟩ := nuB_ok (S.fact 43 (f := fun K => nuB K 98) rfl)
  have iC : PySem.W.findIn K (.ref 98) "__init__" = some (some (.ref 95)) := He.eqO_ok (S.fact 44 (f := fun K => fIs K 98 "__init__" (some (.ref 95))) rfl)
  have tI : PySem.W.typeIn K (.ref 95) = some (.type "function") := of_decide_eq_true (S.fact 45 (f := fun K => decide (PySem.W.typeIn K (.ref 95) = some (.type "function"))) rfl)
  have Nu := ok_nu_init (P := theP) (w := w) (mg := mg) (base := base) FNu (fileB_ok (S.fact 48 (f := fun K => fileB theP K 94) rfl) top_super) B.super Nc
  have cx33 := ok_require_usableX F33 (g 20 rfl) Nc iC tI Nu.1 Nu.2 (g 54 rfl)
  have cx43 := ok_with_ruleX F43 (g 49 rfl) c20 cx33
  have Ta := ok_tab_add FTa Tc c43 c51
  have Tx := ok_tab_addX FTa Tc cx43 c51
  have Tu := ok_tab_or FTu Tc (Tc.sub one) B (g 51 rfl) (it.sub one) c33 MkT Ti.1 Ti.2 i646
  have Ow : OpsWd theP w K mg base tcc 646 98 := ⟨⟨_, _, opB_ok (S.fact 33 (f := fun K => opB K "add" 624 [646, 671, 702]) rfl) tcc_in, opTB_ok (S.fact 36 (f := fun K => opTB K "add" [646, 671, 702]) rfl) tcc_in, Ta.1, Ta.2, Tx⟩,
    ⟨_, _, opB_ok (S.fact 34 (f := fun K => opB K "sub" 631 [646, 671, 702]) rfl) tcc_in, opTB_ok (S.fact 37 (f := fun K => opTB K "sub" [646, 671, 702]) rfl) tcc_in, ok_tab_sub FTs Tc c16 c33 c44 c51⟩,
    ⟨_, _, opB_ok (S.fact 35 (f := fun K => opB K "or" 636 [646, 671, 702]) rfl) tcc_in, fun D E hD e => by
      subst e
      exact tcc_all (p := fun D => (646 : Addr) = D ∨ PySem.W.subIn K (.ref 646) (.ref D) = some false) (.inl rfl) (.inr (of_decide_eq_true (S.fact 41 (f := fun K => decide (PySem.W.subIn K (.ref 646) (.ref 671) = some false)) rfl))) (.inr (of_decide_eq_true (S.fact 42 (f := fun K => decide (PySem.W.subIn K (.ref 646) (.ref 702) = some false)) rfl))) D hD, Tu⟩⟩
  -- Once, Mirrored
  have oneO : ∀ C, (fun C => C = 671) C → tcc C := fun C e => by rw [show C = 671 from e]; exact i671
  have oneM : ∀ C, (fun C => C = 702) C → tcc C := fun C e => by rw [show C = 702 from e]; exact i702
  have TiO := ok_table_init (P := theP) (w := w) (mg := mg) (base := base) FTi (Tc.sub oneO) c34
  have TiM := ok_table_init (P := theP) (w := w) (mg := mg) (base := base) FTi (Tc.sub oneM) c34
  have On := ok_once_init FOn (fileB_ok (S.fact 50 (f := fun K => fileB theP K 667) rfl) top_super) B (supFB_ok (S.fact 46 (f := fun K => supFB K 671 514) rfl)) rfl TiO.1 TiO.2
  have Mr := ok_mir_init FMr (fileB_ok (S.fact 52 (f := fun K => fileB theP K 690) rfl) top_super) B (supFB_ok (S.fact 47 (f := fun K => supFB K 702 514) rfl)) rfl (Tc.cls _ i702) (He.eqO_ok (S.fact 13 (f := fun K => fIs K 702 "own_told" none) rfl)) c34 c46 TiM.1 TiM.2
  have Sw : SubWd theP w K mg base tcc := ⟨⟨671, _, _, i671, g 52 rfl, MkO, On⟩, ⟨702, _, _, i702, g 53 rfl, MkM, Mr⟩⟩
  have Mw : MakeWd theP w K mg base tcc 646 := ⟨i646, g 51 rfl, _, _, MkT, Ti⟩
  have Hd : HeardF theP w K mg base 98 := ⟨⟨752, fd63, F63, g 36 rfl⟩, Nx, g 54 rfl⟩
  -- the law's defs
  have c56 := ok_law_feed (P := theP) (w := w) (base := base) F56 (g 29 rfl) B
  have c57 := ok_law_draw (P := theP) (w := w) (base := base) F57 (g 30 rfl) B
  have c58 := ok_law_pick F58 (g 31 rfl) B c57
  have c59 := ok_law_letters F59 (g 32 rfl) B c57 c58
  have c60 := ok_law_piece F60 (g 33 rfl) B c57 c58
  have c61 := ok_law_rules F61 (g 34 rfl) B c57 c58 c60
  have c62 := ok_law_same (P := theP) (w := w) (base := base) F62 (g 35 rfl) B
  have c64 := ok_law_next (P := theP) (w := w) (base := base) F64 (g 37 rfl) B
  have c65 := ok_law_cut F65 (g 38 rfl) B c64
  have c66 := ok_law_texts (P := theP) (w := w) (base := base) F66 (g 39 rfl) B
  have c67 := ok_law_is_over (P := theP) (w := w) (base := base) F67 (g 40 rfl) B
  have c68 := ok_law_cuts_right F68 (g 41 rfl) B Rw Tw c62 c65 c67 c15
  have c69 := ok_law_is_form F69 (g 42 rfl) B Tw c62 c23 c49
  have t70 : TabF base mg 792 "_law_more.<locals>.<lambda>" := tabF_of 792 788 _ (TB (792, 788) (by decide)) (by decide) (by decide)
  have t71 : TabF base mg 799 "_law_less.<locals>.<lambda>" := tabF_of 799 795 _ (TB (799, 795) (by decide)) (by decide) (by decide)
  have t72 : TabF base mg 804 "_law_united.<locals>.<lambda>" := tabF_of 804 802 _ (TB (804, 802) (by decide)) (by decide) (by decide)
  have t73 : TabF base mg 809 "_law_next_object.<locals>.<lambda>" := tabF_of 809 807 _ (TB (809, 807) (by decide)) (by decide) (by decide)
  have c70 := ok_law_more F70 (g 43 rfl) B Hd t70 i646 Ow c57 c58 c60 c43 cx43
  have c71 := ok_law_less F71 (g 44 rfl) B Hd t71 i646 Ow c57 c44
  have c72 := ok_law_united F72 (g 45 rfl) B Hd t72 Ow Mw c61 c43
  have c73 := ok_law_next_object F73 (g 46 rfl) B Hd t73 Sw c57 c45 c46 c70 c71 c72
  exact ok_law Flaw B Mw c56 c57 c58 c59 c61 c66 c62 c68 c69 c73
theorem law_at {w : World} {h : Heap} {K : KF} {mg : Str → Option Value} {fa : Addr} (S : SaysL w h K) (X : K.In h) (G : h.Ns mainGlobals mg) (hm : mg "law" = some (.ref fa)) : LamX.LawAtS PySem.Challenge.rw_paircuts_k14_whole_objects_are_functions w K CX0 17 63 "_law_script" mg fa h := by
  have e : fa = 817 := by
    have := S.glo X G 47 (x := "law") (a := 817) rfl
    rw [hm] at this
    exact Value.ref.inj (Option.some.inj this)
  subst e
  obtain ⟨fd, F⟩ := at_G S 47 (x := "law") (j := 74) (a := 817) (c := 816) rfl
  refine ⟨fd, tabsL, spT (fun i : ScIx => [tyScr K i.ns]) (fun _ => tyD K (.bool true)), fun p hp => (S.emp p hp).1, fun p hp => (S.emp p hp).2, fun p hp => ?_, fun s u => FunD.bindsA (ps := ["_law_script"]) F (fun _ _ _ _ _ _ us hl => match us, hl with | [_], _ => rfl) s [u] rfl, fun H a ns hl hb hT hS => ?_, fun base KB NB TB => law_ok S X G TB F⟩
  · have hd : ∀ i c t, factsL[i]? = some (fun K => PySem.W.codeHdIn K c t) → PySem.W.CodeHd h c t := fun i c t e => PySem.W.codeHd_of_K X (S.fact i (f := fun K => PySem.W.codeHdIn K c t) e)
    rcases List.mem_cons.mp hp with e | hp
    · exact e ▸ hd 60 792 788 rfl
    rcases List.mem_cons.mp hp with e | hp
    · exact e ▸ hd 61 799 795 rfl
    rcases List.mem_cons.mp hp with e | hp
    · exact e ▸ hd 62 804 802 rfl
    · exact (List.mem_singleton.mp hp) ▸ hd 63 809 807 rfl
  · have tb : LamX.Tabs tabsT H := fun p hp => by
      have at_ : ∀ T, H T = some (.tbl #[]) → ∀ q, LamX.TabS H T q := fun T e q => ⟨#[], e, trivial, fun pos cv hc => by cases hc⟩
      rcases List.mem_cons.mp hp with e | hp
      · exact e ▸ at_ 788 (hT (792, 788) (by decide)) _
      rcases List.mem_cons.mp hp with e | hp
      · exact e ▸ at_ 795 (hT (799, 795) (by decide)) _
      rcases List.mem_cons.mp hp with e | hp
      · exact e ▸ at_ 802 (hT (804, 802) (by decide)) _
      · exact (List.mem_singleton.mp hp) ▸ at_ 807 (hT (809, 807) (by decide)) _
    exact ⟨⟨ns, fun z hz => PySem.intBits_le_iff.mp (hb z hz)⟩, ⟨⟨⟨a, rfl, hS⟩, tb⟩, True.intro⟩, fun v H' _ hv => Dp.bl_ hv⟩
end K14
set_option maxHeartbeats 0
/-! HD5: the statement. -/
open PySem PySem.W PySem.Calls PyProof.Rows
theorem PySem.Challenge.cw_paircuts_k14_whole_objects_are_functions_holds : PySem.Challenge.rw_paircuts_k14_whole_objects_are_functions.Holds := by
  w_on; o_law
  refine HandSHeadRun.head_any (r := OpenLaw.row PySem.Challenge.rw_paircuts_k14_whole_objects_are_functions) (q := K14.theQ) (H := K14.hookL) (ob := K14.obT) (M := 6400) (loose := K14.looseL) (d := HandSHeadRun.topDef (OpenLaw.row PySem.Challenge.rw_paircuts_k14_whole_objects_are_functions).prog 74) (kwd := []) K14.obT_eq
    (by kernel_rfl) (fun s => by kernel_rfl) K14.run_all (by kernel_rfl) (by kernel_rfl) (by kernel_rfl) (by rfl) (by first | assumption | decide +kernel) (by decide +kernel) ⟨rfl, rfl, rfl, rfl, rfl, by decide +kernel⟩ ?hw ?hc
  case hw => w_witness2
  case hc =>
    refine LamX.walk_ofTsE (l := PySem.Challenge.rw_paircuts_k14_whole_objects_are_functions) (n := 63) (k := 17) (x := "_law_script") (CX := fun _ => L2.CX0) rfl (by decide) (by kernel_rfl) ⟨rfl, by decide, by decide⟩ ?F (fun _ _ _ _ _ z => z)
    intro w mg fa h Y G hmg0
    obtain ⟨K, KX, S⟩ := Y
    have hmg : mg ("law" : PySem.Str) = some (.ref fa) := by
      have e : (HandSHeadRun.topDef (OpenLaw.row PySem.Challenge.rw_paircuts_k14_whole_objects_are_functions).prog 74).name = ("law" : PySem.Str) := by kernel_rfl
      rw [← e]
      exact hmg0
    exact ⟨K, KX, K14.law_at S KX G hmg⟩
